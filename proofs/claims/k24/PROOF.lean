import PyProof.Rows.All
import HandS.ForMost
import HandS.EndBits
import HandS.Exc
import HandS.ExcOwn
import HandS.WordsExc
import HandS.TupAny
import HandS.Flow
import HandS.Lambda
import HandS.TupMul
import HandS.IsInst
import HandS.Text
import HandS.Style
import HandS.Conv
import HandS.Wide
import HandS.NoneIn
import HandS.Iter
import HandS.Comp
import HandS.Dict
import KE.GoesMore
import HandS.More
import PyProof.DictDisplay
import PyProof.DictUpdate
import KE.KDictPairs
import HandS.SortRule
import PyProof.Rows.SortKeyStr
import HandS.Zip
import HandS.ListItems
import KE.KExcInit
import HandS.ExcInit
import HandS.ExcIs
import HandS.ExcField
import KE.KTryMore
import HandS.ExcValue
import KE.KExcIs
import HandS.EndTab
import KE.DataFind
import HandS.Deep
import HandS.RaiseMore
import HandS.SortKw
import KE.DataMinMax
import PyProof.Rows.TupReads
import PyProof.Rows.Shapes
import HandS.List
import HandS.Star
import HandS.Property
import HandS.ClsMeth
import HandS.Defaults
import KE.KUnpackStar
import KE.GoesEnumKw
import KE.KDictWalk
import KE.KDictExact
import HandS.DictTup
import KE.KDictZip
import OpenK.KOps
import OpenK.KMeth
import PyProof.InstEq
import HandS.Codes
import PySem.Challenge.RW_rewindplan_k24_whole_powers_add_up
set_option Elab.async false
set_option linter.all false
set_option maxRecDepth 100000
/-! A layer over the hand layer: values as data, names as data, one rule a construct; what a def does is a function over data (W: a wish transformer). -/
namespace PL
open PySem PySem.Spec PyProof.Rows L2

/-- data -/
inductive D where
  | non | bl (b : Bool) | int (i : Int) | str (x : Str) | lst (xs : List D) | tup (xs : List D) | dic (kvs : List (Key × D)) | ins (c f : Str) (x : D)

/-- data, or an object that is changed: a list, a dict -/
inductive Ob where
  | d (x : D) | o (a : Addr)
inductive Nd where
  | lst (xs : List Ob) | dic (kvs : List (Key × Ob))
/-- how many draws there were at most; what the objects hold that are changed -/
structure Nt where
  n : Nat
  μ : Addr → Option Nd

/-- an error: its class's name, its fields -/
abbrev Exc := Str × List (Str × D)

abbrev n0 : Nt := ⟨0, fun _ => none⟩
abbrev W (α : Type) := Nt → (α → Nt → Prop) → (Exc → Nt → Prop) → Prop
section
variable {α β : Type}
def ret (a : α) : W α := fun n P _ => P a n
def bnd (m : W α) (f : α → W β) : W β := fun n P X => m n (fun a k => f a k P X) X
def stuck : W α := fun _ _ _ => False
def rse (e : Exc) : W α := fun n _ X => X e n
def grd (p : Prop) (m : W α) : W α := fun n P X => p ∧ m n P X
end

/-- what a name holds: nothing yet, data that stays, a list or dict of the def's own, the source of draws, an error that was caught, a lambda (its object, its code, its maker's names, what of them is data) -/
inductive SV where
  | un | d (x : D) | own (xs : List D) | ownK (kvs : List (Key × D)) | pen | exc (x : Exc) | lam (f c : Addr) (q : Str) (σ : L2.St) (ds : List (Option D)) | o (a : Addr)
abbrev Env := List SV
def SV.isOwn : SV → Bool
  | .own _ => true
  | .ownK _ => true
  | _ => false
def SV.bor : SV → SV
  | .own xs => .d (.lst xs)
  | .ownK kvs => .d (.dic kvs)
  | s => s
def bor (ρ : Env) : Env := ρ.map SV.bor

/-- a tuple of the written part -/
def WrT (K : PySem.W.Frag) (a : Addr) (xs : List V) : Prop :=
  ∃ (o : Obj) (its : Array Value) (n : Nat), K.lookup a = some o ∧ o.cls = .type "tuple" ∧ o.dict = none ∧ o.data = .seq its n ∧ its.size ≤ sizeLine ∧ Vals xs its.toList
def RdL (S : Addr → Prop) (H : Hp) (a : Addr) (xs : List V) : Prop := S a ∧ H a = some (.lst xs)
/-- a tuple without a dict of its own -/
def PlT (H : Hp) (a : Addr) (xs : List V) : Prop := ∃ o, H a = some (.frz o (.tup xs)) ∧ o.dict = none
def RdT (K : PySem.W.Frag) (S : Addr → Prop) (H : Hp) (a : Addr) (xs : List V) : Prop := (S a ∧ PlT H a xs) ∨ WrT K a xs

/-- an own class whose instances have one field that is never changed -/
structure InsC (K : PySem.W.Frag) (c f : Str) (C : Addr) : Prop where
  at_ : PySem.W.nsIn K mainGlobals c = some (some (.ref C))
  cls : Cls K C
  no : NoAttr K C f
  ca : PySem.W.findIn K (.ref C) "__class__" = some (some (.builtin "object.__class__"))
  cn : PySem.W.specialIn K (.builtin "object.__class__") "__get__" = some (some (.builtin "getset_descriptor.__get__"))
  ct : PySem.W.takesIn K (.builtin "object.__class__") = some true
  cm : PySem.W.mroIn K C (.type "object") = some true
  kit : ∀ T ∈ ["int", "bool", "str", "tuple", "list", "dict"], PySem.W.kitOne K (.ref C) (.type T) = some false
mutual
def Rep (K : PySem.W.Frag) (S : Addr → Prop) (H : Hp) : D → V → Prop
  | .non, v => v = .non
  | .bl b, v => v = .bl b
  | .int i, v => v = .int i
  | .str x, v => v = .str x ∧ x.length ≤ sizeLine
  | .lst xs, v => ∃ a vs, v = .ref a ∧ RdL S H a vs ∧ xs.length ≤ sizeLine ∧ Reps K S H xs vs
  | .tup xs, v => ∃ a vs, v = .ref a ∧ RdT K S H a vs ∧ xs.length ≤ sizeLine ∧ Reps K S H xs vs
  | .dic kvs, v => ∃ a kws, v = .ref a ∧ (S a ∧ Rd H a (.dK kws)) ∧ RepK K S H kvs kws
  | .ins c f x, v => ∃ a C dx w, v = .ref a ∧ InsC K c f C ∧ (S a ∧ H a = some (.ins C dx [(f, w)])) ∧ Rep K S H x w
def Reps (K : PySem.W.Frag) (S : Addr → Prop) (H : Hp) : List D → List V → Prop
  | [], vs => vs = []
  | x :: xs, vs => ∃ v ws, vs = v :: ws ∧ Rep K S H x v ∧ Reps K S H xs ws
def RepK (K : PySem.W.Frag) (S : Addr → Prop) (H : Hp) : List (Key × D) → List (Key × V) → Prop
  | [], vs => vs = []
  | (k, x) :: xs, vs => ∃ v ws, vs = (k, v) :: ws ∧ Rep K S H x v ∧ RepK K S H xs ws
end

/-- what stays -/
structure Grow (S S' : Addr → Prop) (H H' : Hp) : Prop where
  sub : ∀ a, S a → S' a
  eq : ∀ a, S a → H' a = H a
theorem Grow.refl {S : Addr → Prop} {H : Hp} : Grow S S H H := ⟨fun _ h => h, fun _ _ => rfl⟩
theorem Grow.trans {S S1 S2 : Addr → Prop} {H H1 H2 : Hp} (a : Grow S S1 H H1) (b : Grow S1 S2 H1 H2) : Grow S S2 H H2 :=
  ⟨fun x h => b.sub x (a.sub x h), fun x h => (b.eq x (a.sub x h)).trans (a.eq x h)⟩

section
variable {K : PySem.W.Frag} {S S' : Addr → Prop} {H H' : Hp}
theorem Rd.to {a : Addr} {u : HO} (e : H' a = H a) (h : Rd H a u) : Rd H' a u := by
  unfold Rd at *
  rw [e]
  exact h
theorem RdL.grow {a : Addr} {xs : List V} (g : Grow S S' H H') (h : RdL S H a xs) : RdL S' H' a xs := ⟨g.sub a h.1, (g.eq a h.1).trans h.2⟩
theorem RdT.grow {a : Addr} {xs : List V} (g : Grow S S' H H') (h : RdT K S H a xs) : RdT K S' H' a xs :=
  h.elim (fun ⟨z, o, e, d⟩ => .inl ⟨g.sub a z, o, (g.eq a z).trans e, d⟩) .inr
theorem RdL.sq {a : Addr} {xs : List V} (h : RdL S H a xs) : SqL K H a xs := .inl (.inl h.2)
theorem RdT.sq {a : Addr} {xs : List V} (h : RdT K S H a xs) : SqT K H a xs := h.elim (fun ⟨_, o, e, _⟩ => .inl (.inr ⟨o, e⟩)) fun ⟨o, its, n, h1, h2, _, h3⟩ => .inr ⟨o, its, n, h1, h2, h3⟩
mutual
theorem Rep.grow (g : Grow S S' H H') : ∀ (d : D) (v : V), Rep K S H d v → Rep K S' H' d v
  | .non, _, h => h
  | .bl _, _, h => h
  | .int _, _, h => h
  | .str _, _, h => h
  | .lst xs, _, h => by
    obtain ⟨a, vs, e, r, z, q⟩ := h
    exact ⟨a, vs, e, r.grow g, z, Reps.grow g xs vs q⟩
  | .tup xs, _, h => by
    obtain ⟨a, vs, e, r, z, q⟩ := h
    exact ⟨a, vs, e, r.grow g, z, Reps.grow g xs vs q⟩
  | .dic kvs, _, h => by
    obtain ⟨a, kws, e, ⟨r, r2⟩, q⟩ := h
    exact ⟨a, kws, e, ⟨g.sub a r, Rd.to (g.eq a r) r2⟩, RepK.grow g kvs kws q⟩
  | .ins _ _ x, _, h => by
    obtain ⟨a, C, dx, w, e, i, ⟨r, r2⟩, q⟩ := h
    exact ⟨a, C, dx, w, e, i, ⟨g.sub a r, (g.eq a r).trans r2⟩, Rep.grow g x w q⟩
theorem Reps.grow (g : Grow S S' H H') : ∀ (xs : List D) (vs : List V), Reps K S H xs vs → Reps K S' H' xs vs
  | [], _, h => h
  | x :: xs, _, h => by
    obtain ⟨v, ws, e, r, q⟩ := h
    exact ⟨v, ws, e, Rep.grow g x v r, Reps.grow g xs ws q⟩
theorem RepK.grow (g : Grow S S' H H') : ∀ (xs : List (Key × D)) (vs : List (Key × V)), RepK K S H xs vs → RepK K S' H' xs vs
  | [], _, h => h
  | (k, x) :: xs, _, h => by
    obtain ⟨v, ws, e, r, q⟩ := h
    exact ⟨v, ws, e, Rep.grow g x v r, RepK.grow g xs ws q⟩
end
theorem Reps.len : ∀ {xs : List D} {vs : List V}, Reps K S H xs vs → vs.length = xs.length
  | [], _, h => by
    have e : _ = [] := h
    rw [e]
    rfl
  | _ :: xs, _, h => by
    obtain ⟨v, ws, rfl, _, q⟩ := h
    show ws.length + 1 = xs.length + 1
    rw [Reps.len q]
theorem Reps.get : ∀ {xs : List D} {vs : List V} {i : Nat} {v : V}, Reps K S H xs vs → vs[i]? = some v → ∃ x, xs[i]? = some x ∧ Rep K S H x v
  | [], _, i, v, h, e => by
    have e1 : _ = [] := h
    rw [e1] at e
    cases e
  | x :: xs, _, 0, v, h, e => by
    obtain ⟨w, ws, rfl, r, _⟩ := h
    cases e
    exact ⟨x, rfl, r⟩
  | x :: xs, _, i + 1, v, h, e => by
    obtain ⟨w, ws, rfl, _, q⟩ := h
    exact Reps.get (i := i) q e
theorem Reps.at : ∀ {xs : List D} {vs : List V} {i : Nat} {x : D}, Reps K S H xs vs → xs[i]? = some x → ∃ v, vs[i]? = some v ∧ Rep K S H x v
  | [], _, i, x, h, e => by cases e
  | y :: xs, _, 0, x, h, e => by
    obtain ⟨w, ws, rfl, r, _⟩ := h
    cases e
    exact ⟨w, rfl, r⟩
  | y :: xs, _, i + 1, x, h, e => by
    obtain ⟨w, ws, rfl, _, q⟩ := h
    exact Reps.at (i := i) q e
theorem Reps.app : ∀ {xs ys : List D} {vs ws : List V}, Reps K S H xs vs → Reps K S H ys ws → Reps K S H (xs ++ ys) (vs ++ ws)
  | [], ys, vs, ws, h, q => by
    have e : vs = [] := h
    rw [e]
    exact q
  | x :: xs, ys, vs, ws, h, q => by
    obtain ⟨v, us, rfl, r, t⟩ := h
    exact ⟨v, us ++ ws, rfl, r, Reps.app t q⟩
theorem Reps.one {x : D} {v : V} (r : Rep K S H x v) : Reps K S H [x] [v] := ⟨v, [], rfl, r, rfl⟩
theorem Reps.nil : Reps K S H [] [] := rfl
theorem Reps.cons {x : D} {v : V} {xs : List D} {vs : List V} (r : Rep K S H x v) (q : Reps K S H xs vs) : Reps K S H (x :: xs) (v :: vs) := ⟨v, vs, rfl, r, q⟩
theorem Reps.drop : ∀ (n : Nat) {xs : List D} {vs : List V}, Reps K S H xs vs → Reps K S H (xs.drop n) (vs.drop n)
  | 0, _, _, h => h
  | n + 1, [], vs, h => by
    have e : vs = [] := h
    rw [e]
    rfl
  | n + 1, x :: xs, _, h => by
    obtain ⟨v, us, rfl, _, t⟩ := h
    exact Reps.drop n t
theorem Reps.take : ∀ (n : Nat) {xs : List D} {vs : List V}, Reps K S H xs vs → Reps K S H (xs.take n) (vs.take n)
  | 0, _, _, h => rfl
  | n + 1, [], vs, h => by
    have e : vs = [] := h
    rw [e]
    rfl
  | n + 1, x :: xs, _, h => by
    obtain ⟨v, us, rfl, r, t⟩ := h
    exact ⟨v, us.take n, rfl, r, Reps.take n t⟩
theorem Reps.set : ∀ (i : Nat) {xs : List D} {vs : List V} {x : D} {v : V}, Reps K S H xs vs → Rep K S H x v → Reps K S H (xs.set i x) (vs.set i v)
  | _, [], vs, x, v, h, _ => by
    have e : vs = [] := h
    rw [e]
    rfl
  | 0, y :: xs, _, x, v, h, r => by
    obtain ⟨w, us, rfl, _, t⟩ := h
    exact ⟨v, us, rfl, r, t⟩
  | i + 1, y :: xs, _, x, v, h, r => by
    obtain ⟨w, us, rfl, q, t⟩ := h
    exact ⟨w, us.set i v, rfl, q, Reps.set i t r⟩
theorem Reps.rev : ∀ {xs : List D} {vs : List V}, Reps K S H xs vs → Reps K S H xs.reverse vs.reverse
  | [], vs, h => by
    have e : vs = [] := h
    rw [e]
    rfl
  | x :: xs, _, h => by
    obtain ⟨v, us, rfl, r, t⟩ := h
    rw [List.reverse_cons, List.reverse_cons]
    exact Reps.app (Reps.rev t) (Reps.one r)
end

/-- the source of draws: what its two objects hold after at most n draws; the tables of code objects (with the name of the code in them); the module's names -/
structure PenK where
  inv : Hp → Addr → Addr → Nat → Prop
  dep : ∀ {H H' : Hp} {a b : Addr} {n : Nat}, inv H a b n → H' a = H a → H' b = H b → inv H' a b n
  there : ∀ {H : Hp} {a b : Addr} {n : Nat}, inv H a b n → H a ≠ none ∧ H b ≠ none
  isL : ∀ {H : Hp} {a b : Addr} {n : Nat}, inv H a b n → (∃ xs, H a = some (.lst xs)) ∧ ∃ xs, H b = some (.lst xs)
  tab : List (Addr × Str) := []
  mg : Str → Option Value := fun _ => none
  chg : Bool := false

/-- an error as it lies in the heap -/
def RepX (K : PySem.W.Frag) (mg : Str → Option Value) (S : Addr → Prop) (H : Hp) (x : Exc) (cls : Value) (dd : Option Addr) : Prop :=
  ∃ A : Addr, mg x.1 = some (.ref A) ∧ cls = .ref A ∧ ((x.2 = [] ∧ dd = none) ∨ ∃ d fv, dd = some d ∧ S d ∧ H d = some (.xd fv) ∧ Paired (fun (p : Str × D) (q : Str × V) => p.1 = q.1 ∧ Rep K S H p.2 q.2) x.2 fv)
theorem repX_pair {K : PySem.W.Frag} {S S' : Addr → Prop} {H H' : Hp} (f : ∀ d v, Rep K S H d v → Rep K S' H' d v) : ∀ {xs : List (Str × D)} {fv : List (Str × V)}, Paired (fun (p : Str × D) (q : Str × V) => p.1 = q.1 ∧ Rep K S H p.2 q.2) xs fv → Paired (fun (p : Str × D) (q : Str × V) => p.1 = q.1 ∧ Rep K S' H' p.2 q.2) xs fv
  | _, _, .nil => .nil
  | _, _, .cons h t => .cons ⟨h.1, f _ _ h.2⟩ (repX_pair f t)
theorem RepX.grow {K : PySem.W.Frag} {mg : Str → Option Value} {S S' : Addr → Prop} {H H' : Hp} {x : Exc} {cls : Value} {dd : Option Addr} (g : Grow S S' H H') (h : RepX K mg S H x cls dd) : RepX K mg S' H' x cls dd := by
  obtain ⟨A, h1, h2, h3⟩ := h
  refine ⟨A, h1, h2, h3.imp id fun ⟨d, fv, e, hs, hd, p⟩ => ⟨d, fv, e, g.sub d hs, (g.eq d hs).trans hd, repX_pair (fun d v r => Rep.grow g d v r) p⟩⟩
/-- an error object that was caught -/
def ErrO (cls : Value) (dd : Option Addr) (a : Addr) : HO := .ext fun h => ∃ (oe : Obj) (vs : Array Value), h.get? a = some oe ∧ Zc cls dd oe ∧ oe.data = .fields vs
/-- a table of code objects: those that it tells stay -/
def TabI (S : Addr → Prop) (H : Hp) (P : Addr) (q : Str) : Prop := ∃ ps : Array Value, H P = some (.tbl ps) ∧ TriplesOk ps.toList ∧ ∀ (pos : Pos) (cv : Value), codeAmong pos ps.toList = some cv → ∃ c, cv = .ref c ∧ S c ∧ H c = some (LamX.CodeO c q)
theorem TabI.grow {S S' : Addr → Prop} {H H' : Hp} {P : Addr} {q : Str} (g : Grow S S' H H') (e : H' P = H P) (h : TabI S H P q) : TabI S' H' P q := by
  obtain ⟨ps, h1, h2, h3⟩ := h
  refine ⟨ps, e.trans h1, h2, fun pos cv z => ?_⟩
  obtain ⟨c, e1, e2, e3⟩ := h3 pos cv z
  exact ⟨c, e1, g.sub c e2, (g.eq c e2).trans e3⟩
theorem TabI.there {S : Addr → Prop} {H : Hp} {P : Addr} {q : Str} (h : TabI S H P q) : H P ≠ none := by
  obtain ⟨ps, h1, _⟩ := h
  rw [h1]
  exact fun z => nomatch z
/-- what a lambda's body may read -/
def LamOk (K : PySem.W.Frag) (S : Addr → Prop) (H : Hp) (c : Addr) (q : Str) (σ : L2.St) (ds : List (Option D)) : Prop :=
  S c ∧ H c = some (LamX.CodeO c q) ∧ ds.length = σ.length ∧ ∀ (i : Nat) (x : D), ds[i]? = some (some x) → ∃ v, (σ[i]?).join = some v ∧ Rep K S H x v
theorem LamOk.grow {K : PySem.W.Frag} {S S' : Addr → Prop} {H H' : Hp} {c : Addr} {q : Str} {σ : L2.St} {ds : List (Option D)} (g : Grow S S' H H') (h : LamOk K S H c q σ ds) : LamOk K S' H' c q σ ds := by
  obtain ⟨h1, h2, h3, h4⟩ := h
  refine ⟨g.sub c h1, (g.eq c h1).trans h2, h3, fun i x e => ?_⟩
  obtain ⟨v, e1, r⟩ := h4 i x e
  exact ⟨v, e1, Rep.grow g x v r⟩

def D.sc : D → Bool
  | .non => true
  | .bl _ => true
  | .int _ => true
  | .str _ => true
  | _ => false
theorem Rep.sc {K : PySem.W.Frag} {S S' : Addr → Prop} {H H' : Hp} {d : D} {v : V} (h : d.sc = true) (r : Rep K S H d v) : Rep K S' H' d v := by
  cases d <;> first | exact r | cases h
/-- data in an object that is changed: without parts -/
def RepO (K : PySem.W.Frag) (S : Addr → Prop) (H : Hp) : Ob → V → Prop
  | .d x, v => x.sc = true ∧ Rep K S H x v
  | .o a, v => v = .ref a
theorem RepO.move {K : PySem.W.Frag} {S S' : Addr → Prop} {H H' : Hp} {x : Ob} {v : V} (h : RepO K S H x v) : RepO K S' H' x v := by
  cases x with
  | d x => exact ⟨h.1, h.2.sc h.1⟩
  | o a => exact h
/-- what an object that is changed holds -/
def NdOk (K : PySem.W.Frag) (S : Addr → Prop) (H : Hp) (a : Addr) : Nd → Prop
  | .lst xs => ∃ vs, H a = some (.lst vs) ∧ xs.length ≤ sizeLine ∧ Paired (RepO K S H) xs vs
  | .dic kvs => ∃ kws, H a = some (.dK kws) ∧ Paired (fun (p : Key × Ob) (q : Key × V) => p.1 = q.1 ∧ RepO K S H p.2 q.2) kvs kws
theorem paired_imp {α β : Type} {r s : α → β → Prop} (f : ∀ a b, r a b → s a b) : ∀ {xs : List α} {ys : List β}, Paired r xs ys → Paired s xs ys
  | _, _, .nil => .nil
  | _, _, .cons h t => .cons (f _ _ h) (paired_imp f t)
theorem NdOk.move {K : PySem.W.Frag} {S S' : Addr → Prop} {H H' : Hp} {a : Addr} {nd : Nd} (e : H' a = H a) (h : NdOk K S H a nd) : NdOk K S' H' a nd := by
  cases nd with
  | lst xs => obtain ⟨vs, e1, z, r⟩ := h; exact ⟨vs, e.trans e1, z, paired_imp (fun _ _ h => h.move) r⟩
  | dic kvs => obtain ⟨kws, e1, r⟩ := h; exact ⟨kws, e.trans e1, paired_imp (fun _ _ h => ⟨h.1, h.2.move⟩) r⟩
theorem NdOk.grow {K : PySem.W.Frag} {S S' : Addr → Prop} {H H' : Hp} {a : Addr} {nd : Nd} (g : Grow S S' H H') (e : H' a = H a) (h : NdOk K S H a nd) : NdOk K S' H' a nd := h.move e
theorem NdOk.there {K : PySem.W.Frag} {S : Addr → Prop} {H : Hp} {a : Addr} {nd : Nd} (h : NdOk K S H a nd) : H a ≠ none := by
  cases nd with
  | lst xs => obtain ⟨vs, e1, _⟩ := h; rw [e1]; exact fun z => nomatch z
  | dic kvs => obtain ⟨kws, e1, _⟩ := h; rw [e1]; exact fun z => nomatch z
/-- the ghost: what stays, the heap at the entry, the source of draws, what is never among what stays -/
structure C where
  S : Addr → Prop
  H0 : Hp
  pen : Option (Addr × Addr)
  no : Addr → Prop
  mu : Addr → Prop := fun _ => False
/-- the source of draws and the tables -/
def PenK.pent (G : PenK) (c : C) (a : Addr) : Prop := (∃ p, c.pen = some p ∧ (a = p.1 ∨ a = p.2)) ∨ ∃ q ∈ G.tab, a = q.1
/-- what may be changed beneath the frame -/
def PenK.pens (G : PenK) (c : C) (a : Addr) : Prop := G.pent c a ∨ c.mu a
abbrev C.to (c : C) (S' : Addr → Prop) : C := { c with S := S' }
def Young (c : C) (n : Nt) (a : Addr) : Prop := ¬ c.S a ∧ c.H0 a = none ∧ n.μ a = none
def slot (σ : L2.St) (i : Nat) : Option V := (σ[i]?).join

def SlotOk (G : PenK) (K : PySem.W.Frag) (c : C) (H : Hp) : SV → Option V → Prop
  | .un, _ => True
  | .d x, o => ∃ v, o = some v ∧ Rep K c.S H x v
  | .own xs, o => ∃ a vs, o = some (.ref a) ∧ H a = some (.lst vs) ∧ xs.length ≤ sizeLine ∧ Reps K c.S H xs vs
  | .ownK kvs, o => ∃ a kws, o = some (.ref a) ∧ H a = some (.dK kws) ∧ RepK K c.S H kvs kws
  | .pen, o => ∃ p, c.pen = some p ∧ o = some (.ref p.1)
  | .exc x, o => ∃ a cls dd, o = some (.ref a) ∧ c.S a ∧ H a = some (ErrO cls dd a) ∧ RepX K G.mg c.S H x cls dd
  | .lam f b q σ ds, o => o = some (.ref f) ∧ LamOk K c.S H b q σ ds
  | .o a, o => o = some (.ref a)

structure SI (G : PenK) (K : PySem.W.Frag) (c : C) (σ : L2.St) (H : Hp) (ρ : Env) (n : Nt) : Prop where
  len : ρ.length = σ.length
  slots : ∀ i sv, ρ[i]? = some sv → SlotOk G K c H sv (slot σ i)
  own : ∀ i sv a, ρ[i]? = some sv → sv.isOwn = true → slot σ i = some (.ref a) → Young c n a
  apart : ∀ i j sv sv' a, i ≠ j → ρ[i]? = some sv → ρ[j]? = some sv' → sv.isOwn = true → sv'.isOwn = true → slot σ i = some (.ref a) → slot σ j = some (.ref a) → False
  dom : ∀ a, c.S a → H a ≠ none
  fr : ∀ a o, c.H0 a = some o → ¬ G.pens c a → H a = some o
  pen : ∀ p, c.pen = some p → G.inv H p.1 p.2 n.n ∧ ¬ c.S p.1 ∧ ¬ c.S p.2 ∧ c.H0 p.1 ≠ none ∧ c.H0 p.2 ≠ none
  no : ∀ a, c.no a → ¬ c.S a ∧ c.H0 a ≠ none
  tab : ∀ q ∈ G.tab, c.no q.1 ∧ TabI c.S H q.1 q.2
  mu : ∀ a nd, n.μ a = some nd → NdOk K c.S H a nd ∧ ¬ c.S a ∧ (c.mu a ∨ c.H0 a = none) ∧ ¬ G.pent c a
  mu0 : ∀ a, c.mu a → n.μ a ≠ none ∧ c.H0 a ≠ none
  mz : G.chg = false → ∀ a, n.μ a = none

theorem slot_set_same {σ : L2.St} {i : Nat} {o : Option V} (h : i < σ.length) : slot (σ.set i o) i = o := by
  unfold slot
  rw [List.getElem?_set_self h]
  rfl
theorem slot_set_ne {σ : L2.St} {i j : Nat} {o : Option V} (h : i ≠ j) : slot (σ.set i o) j = slot σ j := by
  unfold slot
  rw [List.getElem?_set_ne h]
theorem slot_some {σ : L2.St} {i : Nat} {v : V} (h : slot σ i = some v) : σ[i]? = some (some v) := by
  unfold slot at h
  cases e : σ[i]? with
  | none => rw [e] at h; cases h
  | some o =>
    rw [e] at h
    have h2 : o = some v := h
    rw [h2]

section
variable {G : PenK} {K : PySem.W.Frag} {c : C} {σ : L2.St} {H H' : Hp} {ρ : Env} {n : Nt}
/-- what was new at the entry's heap is no source of draws -/
theorem SI.penOld (I : SI G K c σ H ρ n) {a : Addr} (h : c.H0 a = none) : ¬ G.pens c a := fun z => by
  rcases z with (⟨p, e, z⟩ | ⟨q, e, z⟩) | z
  · obtain ⟨_, _, _, h1, h2⟩ := I.pen p e
    rcases z with z | z
    · exact h1 (z ▸ h)
    · exact h2 (z ▸ h)
  · exact (I.no _ (I.tab q e).1).2 (z ▸ h)
  · exact (I.mu0 a z).2 h
/-- a table is none of what stays, nor new -/
theorem SI.tabN (I : SI G K c σ H ρ n) {q : Addr × Str} (h : q ∈ G.tab) : ¬ c.S q.1 ∧ c.H0 q.1 ≠ none ∧ H q.1 ≠ none := ⟨(I.no _ (I.tab q h).1).1, (I.no _ (I.tab q h).1).2, (I.tab q h).2.there⟩
/-- a free address is free at the entry too -/
theorem SI.freeOld (I : SI G K c σ H ρ n) {a : Addr} (h : H a = none) : c.H0 a = none := by
  cases e : c.H0 a with
  | none => rfl
  | some o =>
    by_cases hp : G.pens c a
    · rcases hp with (⟨p, e2, z⟩ | ⟨q, e2, z⟩) | z
      · obtain ⟨k1, k2⟩ := G.there (I.pen p e2).1
        rcases z with z | z
        · rw [z] at h; exact absurd h k1
        · rw [z] at h; exact absurd h k2
      · exact absurd (z ▸ h) (I.tabN e2).2.2
      · cases e : n.μ a with
        | none => exact absurd e (I.mu0 a z).1
        | some nd => exact absurd h (I.mu a nd e).1.there
    · have := I.fr a o e hp
      rw [h] at this
      cases this
theorem SI.freeM (I : SI G K c σ H ρ n) {a : Addr} (h : H a = none) : n.μ a = none := by
  cases e : n.μ a with
  | none => rfl
  | some nd => exact absurd h (I.mu a nd e).1.there
/-- what is changed is none of what stays -/
theorem SI.muS (I : SI G K c σ H ρ n) {a : Addr} (h : n.μ a ≠ none) : ¬ c.S a ∧ H a ≠ none := by
  obtain ⟨nd, e⟩ := Option.ne_none_iff_exists'.mp h
  exact ⟨(I.mu a nd e).2.1, (I.mu a nd e).1.there⟩
theorem SI.freeS (I : SI G K c σ H ρ n) {a : Addr} (h : H a = none) : ¬ c.S a := fun z => I.dom a z h
theorem SlotOk.grow {S' : Addr → Prop} (g : Grow c.S S' H H') {o : Option V} (ho : ∀ a, o = some (.ref a) → sv.isOwn = true → H' a = H a) (h : SlotOk G K c H sv o) : SlotOk G K (c.to S') H' sv o := by
  cases sv with
  | un => trivial
  | d x => obtain ⟨v, e, r⟩ := h; exact ⟨v, e, Rep.grow g x v r⟩
  | own xs => obtain ⟨a, vs, e, r, z, q⟩ := h; exact ⟨a, vs, e, (ho a e rfl).trans r, z, Reps.grow g xs vs q⟩
  | ownK kvs => obtain ⟨a, vs, e, r, q⟩ := h; exact ⟨a, vs, e, (ho a e rfl).trans r, RepK.grow g kvs vs q⟩
  | pen => exact h
  | exc x => obtain ⟨a, cls, dd, e, hs, ha, r⟩ := h; exact ⟨a, cls, dd, e, g.sub a hs, (g.eq a hs).trans ha, r.grow g⟩
  | lam f b q σ ds => exact ⟨h.1, h.2.grow g⟩
  | o a => exact h
/-- a new object is laid and stays -/
theorem SI.laid (I : SI G K c σ H ρ n) {p : Addr} {o : HO} (hp : H p = none) : SI G K (c.to fun a => c.S a ∨ a = p) σ (upd H p o) ρ n ∧ Grow c.S (fun a => c.S a ∨ a = p) H (upd H p o) := by
  have ne : ∀ a, H a ≠ none → a ≠ p := fun a h z => h (z ▸ hp)
  have g : Grow c.S (fun a => c.S a ∨ a = p) H (upd H p o) := ⟨fun _ h => .inl h, fun a h => upd_ne (ne a (I.dom a h))⟩
  refine ⟨⟨I.len, fun i sv e => (I.slots i sv e).grow g (fun a ea ho => upd_ne (ne a ?_)), fun i sv a e ho es => ?_, I.apart, fun a h => ?_, fun a u e hn => ?_, fun q e => ?_, fun a h => ⟨fun z => z.elim (I.no a h).1 fun z => (I.no a h).2 (z ▸ I.freeOld hp), (I.no a h).2⟩, fun q e => ⟨(I.tab q e).1, (I.tab q e).2.grow g (upd_ne (ne _ (I.tabN e).2.2))⟩, fun a nd e => ?_, I.mu0, I.mz⟩, g⟩
  · have h := I.slots i sv e
    cases sv with
    | own xs =>
      obtain ⟨b, vs, e1, r, _⟩ := h
      rw [e1] at ea
      cases ea
      rw [r]; exact fun z => nomatch z
    | ownK kvs =>
      obtain ⟨b, vs, e1, r, _⟩ := h
      rw [e1] at ea
      cases ea
      rw [r]; exact fun z => nomatch z
    | un => cases ho
    | d _ => cases ho
    | pen => cases ho
    | exc _ => cases ho
    | lam _ _ _ _ _ => cases ho
    | o _ => cases ho
  · obtain ⟨h1, h2⟩ := I.own i sv a e ho es
    refine ⟨fun z => z.elim h1 fun z => ?_, h2⟩
    have h := I.slots i sv e
    cases sv with
    | own xs =>
      obtain ⟨b, vs, e1, r, _⟩ := h
      rw [e1] at es
      cases es
      rw [z, hp] at r; cases r
    | ownK kvs =>
      obtain ⟨b, vs, e1, r, _⟩ := h
      rw [e1] at es
      cases es
      rw [z, hp] at r; cases r
    | un => cases ho
    | d _ => cases ho
    | pen => cases ho
    | exc _ => cases ho
    | lam _ _ _ _ _ => cases ho
    | o _ => cases ho
  · by_cases e : a = p
    · rw [e, upd_same]; exact fun z => nomatch z
    · rw [upd_ne e]
      exact I.dom a (h.resolve_right e)
  · have := I.fr a u e hn
    rw [upd_ne (ne a (by rw [this]; exact fun z => nomatch z))]
    exact this
  · obtain ⟨h1, h2, h3, h4, h5⟩ := I.pen q e
    obtain ⟨k1, k2⟩ := G.there h1
    exact ⟨G.dep h1 (upd_ne (ne _ k1)) (upd_ne (ne _ k2)), fun z => z.elim h2 (ne _ k1), fun z => z.elim h3 (ne _ k2), h4, h5⟩
  · obtain ⟨m1, m2, m3, m4⟩ := I.mu a nd e
    exact ⟨m1.grow g (upd_ne (ne _ m1.there)), fun z => z.elim m2 (ne _ m1.there), m3, m4⟩
end
end PL

/-! The layer's judgements, names, constants, operators, statements. -/
namespace PL
open PySem PySem.Spec L2

section
variable (G : PenK) (X : Cx) (Wx : WX)
/-- behind an expression that gives data -/
def Gl1 (c : C) (σ : L2.St) (ρ : Env) (H : Hp) (P : D → Nt → Prop) (Q : VK) : Prop :=
  ∀ d k v S' H', P d k → Grow c.S S' H H' → SI G X.K (c.to S') σ H' ρ k → Rep X.K S' H' d v → Q v H'
/-- .. that gives a new list -/
def FreshAt (c : C) (n : Nt) (σ : L2.St) (ρ : Env) (a : Addr) : Prop := Young c n a ∧ ∀ i sv, ρ[i]? = some sv → sv.isOwn = true → slot σ i ≠ some (.ref a)
def GlO (c : C) (σ : L2.St) (ρ : Env) (H : Hp) (P : List D → Nt → Prop) (Q : VK) : Prop :=
  ∀ xs k a vs S' H', P xs k → Grow c.S S' H H' → SI G X.K (c.to S') σ H' ρ k → H' a = some (.lst vs) → xs.length ≤ sizeLine → Reps X.K S' H' xs vs → FreshAt (c.to S') k σ ρ a → Q (.ref a) H'
/-- .. a test -/
def GlB (c : C) (σ : L2.St) (ρ : Env) (H : Hp) (P : Bool → Nt → Prop) (Q : Bool → Hp → Prop) : Prop :=
  ∀ b k S' H', P b k → Grow c.S S' H H' → SI G X.K (c.to S') σ H' ρ k → Q b H'
/-- .. arguments -/
def GlA (c : C) (σ : L2.St) (ρ : Env) (H : Hp) (P : List D → Nt → Prop) (Q : List V → Hp → Prop) : Prop :=
  ∀ ds k vs S' H', P ds k → Grow c.S S' H H' → SI G X.K (c.to S') σ H' ρ k → Reps X.K S' H' ds vs → Q vs H'
/-- what is wanted of errors -/
def OKx (c : C) (σ : L2.St) (ρ : Env) (H : Hp) (PX : Exc → Nt → Prop) : Prop :=
  ∀ x k S' H' cls dd, PX x k → Grow c.S S' H H' → SI G X.K (c.to S') σ H' ρ k → RepX X.K X.mg S' H' x cls dd → Wx cls dd σ H'
def OKs (c : C) (H : Hp) (PX : Exc → Nt → Prop) : Prop :=
  ∀ x k σ' ρ' S' H' cls dd, PX x k → Grow c.S S' H H' → SI G X.K (c.to S') σ' H' ρ' k → RepX X.K X.mg S' H' x cls dd → Wx cls dd σ' H'

def tE (g : Env → W D) : TE := fun σ H Q => ∃ c ρ n P PX, SI G X.K c σ H ρ n ∧ g ρ n P PX ∧ Gl1 G X c σ ρ H P Q ∧ OKx G X Wx c σ ρ H PX
def tO (g : Env → W (List D)) : TE := fun σ H Q => ∃ c ρ n P PX, SI G X.K c σ H ρ n ∧ g ρ n P PX ∧ GlO G X c σ ρ H P Q ∧ OKx G X Wx c σ ρ H PX
def tT (g : Env → W Bool) : TT := fun σ H Q => ∃ c ρ n P PX, SI G X.K c σ H ρ n ∧ g ρ n P PX ∧ GlB G X c σ ρ H P Q ∧ OKx G X Wx c σ ρ H PX
def tAr (g : Env → W (List D)) : TA := fun σ H Q => ∃ c ρ n P PX, SI G X.K c σ H ρ n ∧ g ρ n P PX ∧ GlA G X c σ ρ H P Q ∧ OKx G X Wx c σ ρ H PX

def E (e : Expr) (g : Env → W D) : Prop := PE X e (tE G X Wx g)
def EO (e : Expr) (g : Env → W (List D)) : Prop := PE X e (tO G X Wx g)
def T (e : Expr) (g : Env → W Bool) : Prop := PT X e (tT G X Wx g)
def A (es : List Expr) (g : Env → W (List D)) : Prop := PA X es (tAr G X Wx g)

/-- how a statement ends -/
inductive Out where
  | nx (ρ : Env) | rt (d : D) (ρ : Env) | bk (ρ : Env) | ct (ρ : Env)
def GlS (c : C) (H : Hp) (P : Out → Nt → Prop) (Dn : Ends) : Prop :=
  (∀ ρ' k σ' S' H', P (.nx ρ') k → Grow c.S S' H H' → SI G X.K (c.to S') σ' H' ρ' k → Dn.nx σ' H') ∧
  (∀ d k v σ' ρ' S' H', P (.rt d ρ') k → Grow c.S S' H H' → SI G X.K (c.to S') σ' H' ρ' k → Rep X.K S' H' d v → Dn.rt v H') ∧
  (∀ ρ' k σ' S' H', P (.bk ρ') k → Grow c.S S' H H' → SI G X.K (c.to S') σ' H' ρ' k → Dn.bk σ' H') ∧
  ∀ ρ' k σ' S' H', P (.ct ρ') k → Grow c.S S' H H' → SI G X.K (c.to S') σ' H' ρ' k → Dn.ct σ' H'
def tS (g : Env → W Out) : TS := fun Dn σ H => ∃ c ρ n P PX, SI G X.K c σ H ρ n ∧ g ρ n P PX ∧ GlS G X c H P Dn ∧ OKs G X Wx c H PX
def St1 (s : Stmt) (g : Env → W Out) : Prop := PS X s (tS G X Wx g)
def Ss (s : List Stmt) (g : Env → W Out) : Prop := PSs X s (tS G X Wx g)
end

section
variable {G : PenK} {X : Cx} {Wx : WX} {c : C} {σ : L2.St} {ρ : Env} {H H' : Hp} {n k : Nt} {S' : Addr → Prop}
theorem Gl1.grow {P : D → Nt → Prop} {Q : VK} (h : Gl1 G X c σ ρ H P Q) (g : Grow c.S S' H H') : Gl1 G X (c.to S') σ ρ H' P Q :=
  fun d k v S2 H2 p g2 I r => h d k v S2 H2 p (g.trans g2) I r
theorem GlO.grow {P : List D → Nt → Prop} {Q : VK} (h : GlO G X c σ ρ H P Q) (g : Grow c.S S' H H') : GlO G X (c.to S') σ ρ H' P Q :=
  fun d k v vs S2 H2 p g2 I r z q f => h d k v vs S2 H2 p (g.trans g2) I r z q f
theorem GlB.grow {P : Bool → Nt → Prop} {Q : Bool → Hp → Prop} (h : GlB G X c σ ρ H P Q) (g : Grow c.S S' H H') : GlB G X (c.to S') σ ρ H' P Q :=
  fun d k S2 H2 p g2 I => h d k S2 H2 p (g.trans g2) I
theorem GlA.grow {P : List D → Nt → Prop} {Q : List V → Hp → Prop} (h : GlA G X c σ ρ H P Q) (g : Grow c.S S' H H') : GlA G X (c.to S') σ ρ H' P Q :=
  fun d k v S2 H2 p g2 I r => h d k v S2 H2 p (g.trans g2) I r
theorem OKx.grow {PX : Exc → Nt → Prop} (h : OKx G X Wx c σ ρ H PX) (g : Grow c.S S' H H') : OKx G X Wx (c.to S') σ ρ H' PX :=
  fun x k S2 H2 cl dd p g2 I r => h x k S2 H2 cl dd p (g.trans g2) I r
theorem OKs.grow {PX : Exc → Nt → Prop} (h : OKs G X Wx c H PX) (g : Grow c.S S' H H') : OKs G X Wx (c.to S') H' PX :=
  fun x k σ2 ρ2 S2 H2 cl dd p g2 I r => h x k σ2 ρ2 S2 H2 cl dd p (g.trans g2) I r
theorem OKs.x {PX : Exc → Nt → Prop} (h : OKs G X Wx c H PX) : OKx G X Wx c σ ρ H PX :=
  fun x k S2 H2 cl dd p g I r => h x k σ ρ S2 H2 cl dd p g I r
theorem GlS.grow {P : Out → Nt → Prop} {Dn : Ends} (h : GlS G X c H P Dn) (g : Grow c.S S' H H') : GlS G X (c.to S') H' P Dn :=
  ⟨fun ρ k σ S2 H2 p g2 I => h.1 ρ k σ S2 H2 p (g.trans g2) I, fun d k v σ ρ S2 H2 p g2 I r => h.2.1 d k v σ ρ S2 H2 p (g.trans g2) I r,
    fun ρ k σ S2 H2 p g2 I => h.2.2.1 ρ k σ S2 H2 p (g.trans g2) I, fun ρ k σ S2 H2 p g2 I => h.2.2.2 ρ k σ S2 H2 p (g.trans g2) I⟩
theorem Gl1.at {P : D → Nt → Prop} {Q : VK} (h : Gl1 G X c σ ρ H P Q) {d : D} {v : V} (p : P d n) (I : SI G X.K c σ H ρ n) (r : Rep X.K c.S H d v) : Q v H :=
  h d n v c.S H p .refl I r
/-- a new object as the answer -/
theorem Gl1.new {P : D → Nt → Prop} {Q : VK} (h : Gl1 G X c σ ρ H P Q) {d : D} {a : Addr} {o : HO} (p : P d n) (I : SI G X.K c σ H ρ n) (hp : H a = none)
    (r : Grow c.S (fun b => c.S b ∨ b = a) H (upd H a o) → Rep X.K (fun b => c.S b ∨ b = a) (upd H a o) d (.ref a)) : Q (.ref a) (upd H a o) := by
  obtain ⟨I', g⟩ := I.laid (o := o) hp
  exact h d n _ _ _ p g I' (r g)
theorem weakE {e : Expr} {t t' : TE} (h : PE X e t) (f : ∀ σ H Q, t' σ H Q → t σ H Q) : PE X e t' := ⟨fun pins s σ H Q I q => h.run pins s σ H Q I (f σ H Q q)⟩
theorem weakT {e : Expr} {t t' : TT} (h : PT X e t) (f : ∀ σ H Q, t' σ H Q → t σ H Q) : PT X e t' := ⟨fun pins s σ H Q I q => h.run pins s σ H Q I (f σ H Q q)⟩
theorem weakW {e : Expr} {t t' : TT} (h : PW X e t) (f : ∀ σ H Q, t' σ H Q → t σ H Q) : PW X e t' := ⟨fun wh pins s σ H Q I q => h.run wh pins s σ H Q I (f σ H Q q)⟩
theorem weakA {es : List Expr} {t t' : TA} (h : PA X es t) (f : ∀ σ H Q, t' σ H Q → t σ H Q) : PA X es t' := ⟨fun pos pins s σ H Q I q => h.run pos pins s σ H Q I (f σ H Q q)⟩
theorem weakS {s : Stmt} {t t' : TS} (h : PS X s t) (f : ∀ D σ H, t' D σ H → t D σ H) : PS X s t' := ⟨fun pins s σ H D I q => h.run pins s σ H D I (f D σ H q)⟩
theorem weakSs {s : List Stmt} {t t' : TS} (h : PSs X s t) (f : ∀ D σ H, t' D σ H → t D σ H) : PSs X s t' := ⟨fun pins s σ H D I q => h.run pins s σ H D I (f D σ H q)⟩
/-- the parts in a row -/
theorem tE.bnd {α : Type} {g : Env → W D} {f : D → W α} {P : α → Nt → Prop} {PX : Exc → Nt → Prop} {Q : VK} (I : SI G X.K c σ H ρ n) (h : PL.bnd (g ρ) f n P PX) (hx : OKx G X Wx c σ ρ H PX)
    (hk : ∀ d k v S' H', f d k P PX → Grow c.S S' H H' → SI G X.K (c.to S') σ H' ρ k → OKx G X Wx (c.to S') σ ρ H' PX → Rep X.K S' H' d v → Q v H') : tE G X Wx g σ H Q :=
  ⟨c, ρ, n, fun d k => f d k P PX, PX, I, h, fun d k v S' H' p g I' r => hk d k v S' H' p g I' (hx.grow g) r, hx⟩
theorem tO.bnd {α : Type} {g : Env → W (List D)} {f : List D → W α} {P : α → Nt → Prop} {PX : Exc → Nt → Prop} {Q : VK} (I : SI G X.K c σ H ρ n) (h : PL.bnd (g ρ) f n P PX) (hx : OKx G X Wx c σ ρ H PX)
    (hk : ∀ xs k a vs S' H', f xs k P PX → Grow c.S S' H H' → SI G X.K (c.to S') σ H' ρ k → OKx G X Wx (c.to S') σ ρ H' PX → H' a = some (.lst vs) → xs.length ≤ sizeLine → Reps X.K S' H' xs vs → FreshAt (c.to S') k σ ρ a → Q (.ref a) H') : tO G X Wx g σ H Q :=
  ⟨c, ρ, n, fun d k => f d k P PX, PX, I, h, fun d k v vs S' H' p g I' r z q fr => hk d k v vs S' H' p g I' (hx.grow g) r z q fr, hx⟩
theorem tT.bnd {α : Type} {g : Env → W Bool} {f : Bool → W α} {P : α → Nt → Prop} {PX : Exc → Nt → Prop} {Q : Bool → Hp → Prop} (I : SI G X.K c σ H ρ n) (h : PL.bnd (g ρ) f n P PX) (hx : OKx G X Wx c σ ρ H PX)
    (hk : ∀ d k S' H', f d k P PX → Grow c.S S' H H' → SI G X.K (c.to S') σ H' ρ k → OKx G X Wx (c.to S') σ ρ H' PX → Q d H') : tT G X Wx g σ H Q :=
  ⟨c, ρ, n, fun d k => f d k P PX, PX, I, h, fun d k S' H' p g I' => hk d k S' H' p g I' (hx.grow g), hx⟩
theorem tAr.bnd {α : Type} {g : Env → W (List D)} {f : List D → W α} {P : α → Nt → Prop} {PX : Exc → Nt → Prop} {Q : List V → Hp → Prop} (I : SI G X.K c σ H ρ n) (h : PL.bnd (g ρ) f n P PX) (hx : OKx G X Wx c σ ρ H PX)
    (hk : ∀ d k v S' H', f d k P PX → Grow c.S S' H H' → SI G X.K (c.to S') σ H' ρ k → OKx G X Wx (c.to S') σ ρ H' PX → Reps X.K S' H' d v → Q v H') : tAr G X Wx g σ H Q :=
  ⟨c, ρ, n, fun d k => f d k P PX, PX, I, h, fun d k v S' H' p g I' r => hk d k v S' H' p g I' (hx.grow g) r, hx⟩

end
section
variable {G : PenK} {K : PySem.W.Frag} {c : C} {σ : L2.St} {ρ : Env} {H H' : Hp} {n k : Nt} {S' : Addr → Prop}
/-- a name takes data -/
theorem SI.set {i : Nat} {d : D} {v : V} (I : SI G K c σ H ρ n) (r : Rep K c.S H d v) : SI G K c (σ.set i (some v)) H (ρ.set i (.d d)) n := by
  have key : ∀ j sv, (ρ.set i (.d d))[j]? = some sv → (j = i ∧ sv = .d d ∧ slot (σ.set i (some v)) j = some v) ∨ (i ≠ j ∧ ρ[j]? = some sv ∧ slot (σ.set i (some v)) j = slot σ j) := fun j sv e => by
    by_cases h : i = j
    · subst h
      have hl : i < ρ.length := by
        have := (List.getElem?_eq_some_iff.mp e).1
        rwa [List.length_set] at this
      rw [List.getElem?_set_self hl] at e
      exact .inl ⟨rfl, (Option.some.inj e).symm, slot_set_same (I.len ▸ hl)⟩
    · rw [List.getElem?_set_ne h] at e
      exact .inr ⟨h, e, slot_set_ne h⟩
  refine ⟨by rw [List.length_set, List.length_set, I.len], fun j sv e => ?_, fun j sv a e ho es => ?_, fun j k sv sv' a hn e e' ho ho' es es' => ?_, I.dom, I.fr, I.pen, I.no, I.tab, I.mu, I.mu0, I.mz⟩
  · rcases key j sv e with ⟨_, rfl, h⟩ | ⟨_, h, h2⟩
    · exact ⟨v, h, r⟩
    · rw [h2]; exact I.slots j sv h
  · rcases key j sv e with ⟨_, rfl, h⟩ | ⟨_, h, h2⟩
    · cases ho
    · exact I.own j sv a h ho (h2 ▸ es)
  · rcases key j sv e with ⟨_, rfl, h⟩ | ⟨_, h, h2⟩
    · cases ho
    · rcases key k sv' e' with ⟨_, rfl, h⟩ | ⟨_, h', h2'⟩
      · cases ho'
      · exact I.apart j k sv sv' a hn h h' ho ho' (h2 ▸ es) (h2' ▸ es')
/-- a name takes a new list -/
theorem SI.setO {i : Nat} {xs : List D} {a : Addr} {vs : List V} (I : SI G K c σ H ρ n) (e1 : H a = some (.lst vs)) (z : xs.length ≤ sizeLine) (r : Reps K c.S H xs vs) (y : Young c n a)
    (f : ∀ j sv, i ≠ j → ρ[j]? = some sv → sv.isOwn = true → slot σ j ≠ some (.ref a)) : SI G K c (σ.set i (some (.ref a))) H (ρ.set i (.own xs)) n := by
  have key : ∀ j sv, (ρ.set i (.own xs))[j]? = some sv → (j = i ∧ sv = .own xs ∧ slot (σ.set i (some (.ref a))) j = some (.ref a)) ∨ (i ≠ j ∧ ρ[j]? = some sv ∧ slot (σ.set i (some (.ref a))) j = slot σ j) := fun j sv e => by
    by_cases h : i = j
    · subst h
      have hl : i < ρ.length := by
        have := (List.getElem?_eq_some_iff.mp e).1
        rwa [List.length_set] at this
      rw [List.getElem?_set_self hl] at e
      exact .inl ⟨rfl, (Option.some.inj e).symm, slot_set_same (I.len ▸ hl)⟩
    · rw [List.getElem?_set_ne h] at e
      exact .inr ⟨h, e, slot_set_ne h⟩
  refine ⟨by rw [List.length_set, List.length_set, I.len], fun j sv e => ?_, fun j sv b e ho es => ?_, fun j k sv sv' b hn e e' ho ho' es es' => ?_, I.dom, I.fr, I.pen, I.no, I.tab, I.mu, I.mu0, I.mz⟩
  · rcases key j sv e with ⟨_, rfl, h⟩ | ⟨_, h, h2⟩
    · exact ⟨a, vs, h, e1, z, r⟩
    · rw [h2]; exact I.slots j sv h
  · rcases key j sv e with ⟨_, rfl, h⟩ | ⟨_, h, h2⟩
    · rw [h] at es; cases es; exact y
    · exact I.own j sv b h ho (h2 ▸ es)
  · rcases key j sv e with ⟨h0, rfl, h⟩ | ⟨_, h, h2⟩
    · rcases key k sv' e' with ⟨h0', rfl, h'⟩ | ⟨_, h', h2'⟩
      · exact hn (h0.trans h0'.symm)
      · rw [h] at es; cases es
        exact f k sv' (h0 ▸ hn) h' ho' (h2' ▸ es')
    · rcases key k sv' e' with ⟨h0', rfl, h'⟩ | ⟨_, h', h2'⟩
      · rw [h'] at es'; cases es'
        exact f j sv (fun q => hn (q ▸ h0'.symm)) h ho (h2 ▸ es)
      · exact I.apart j k sv sv' b hn h h' ho ho' (h2 ▸ es) (h2' ▸ es')
/-- an address comes among those that stay -/
theorem SI.adopt {a : Addr} (I : SI G K c σ H ρ n) (y : FreshAt c n σ ρ a) (h : H a ≠ none) : SI G K (c.to fun b => c.S b ∨ b = a) σ H ρ n ∧ Grow c.S (fun b => c.S b ∨ b = a) H H := by
  have g : Grow c.S (fun b => c.S b ∨ b = a) H H := ⟨fun _ h => .inl h, fun _ _ => rfl⟩
  refine ⟨⟨I.len, fun i sv e => (I.slots i sv e).grow g fun _ _ _ => rfl, fun i sv b e ho es => ?_, I.apart, fun b h' => ?_, I.fr, fun p e => ?_, fun b h => ⟨fun z => z.elim (I.no b h).1 fun z => (I.no b h).2 (z ▸ y.1.2.1), (I.no b h).2⟩, fun q e => ⟨(I.tab q e).1, (I.tab q e).2.grow g rfl⟩, fun b nd e => ⟨(I.mu b nd e).1.grow g rfl, fun z => Or.elim z (I.mu b nd e).2.1 fun z => (by rw [z, y.1.2.2] at e; cases e), (I.mu b nd e).2.2⟩, I.mu0, I.mz⟩, g⟩
  · obtain ⟨h1, h2⟩ := I.own i sv b e ho es
    exact ⟨fun z => z.elim h1 fun z => y.2 i sv e ho (z ▸ es), h2⟩
  · rcases h' with h' | rfl
    · exact I.dom b h'
    · exact h
  · obtain ⟨h1, h2, h3, h4, h5⟩ := I.pen p e
    exact ⟨h1, fun z => z.elim h2 fun z => h4 (z ▸ y.1.2.1), fun z => z.elim h3 fun z => h5 (z ▸ y.1.2.1), h4, h5⟩

/-! ### all that is one's own, lent -/
def ownS (ρ : Env) (σ : L2.St) (a : Addr) : Prop := ∃ i sv, ρ[i]? = some sv ∧ sv.isOwn = true ∧ slot σ i = some (.ref a)
theorem bor_get {i : Nat} {sv : SV} (h : (bor ρ)[i]? = some sv) : ∃ s0, ρ[i]? = some s0 ∧ sv = s0.bor := by
  unfold bor at h
  rw [List.getElem?_map] at h
  cases e : ρ[i]? with
  | none => rw [e] at h; cases h
  | some s0 => rw [e] at h; exact ⟨s0, rfl, (Option.some.inj h).symm⟩
theorem bor_own {s : SV} : s.bor.isOwn = false := by cases s <;> rfl
theorem SI.own_there (I : SI G K c σ H ρ n) {a : Addr} (h : ownS ρ σ a) : H a ≠ none := by
  obtain ⟨i, sv, e, ho, es⟩ := h
  have q := I.slots i sv e
  cases sv with
  | own xs => obtain ⟨b, vs, e1, r, _⟩ := q; rw [e1] at es; cases es; rw [r]; exact fun z => nomatch z
  | ownK kvs => obtain ⟨b, vs, e1, r, _⟩ := q; rw [e1] at es; cases es; rw [r]; exact fun z => nomatch z
  | un => cases ho
  | d _ => cases ho
  | pen => cases ho
  | exc _ => cases ho
  | lam _ _ _ _ _ => cases ho
  | o _ => cases ho
theorem SI.lend (I : SI G K c σ H ρ n) : SI G K (c.to fun a => c.S a ∨ ownS ρ σ a) σ H (bor ρ) n ∧ Grow c.S (fun a => c.S a ∨ ownS ρ σ a) H H := by
  have g : Grow c.S (fun a => c.S a ∨ ownS ρ σ a) H H := ⟨fun _ h => .inl h, fun _ _ => rfl⟩
  refine ⟨⟨by unfold bor; rw [List.length_map, I.len], fun i sv e => ?_, fun i sv a e ho => ?_, fun i j sv sv' a _ e _ ho => ?_, fun a h => h.elim (I.dom a) I.own_there, I.fr, fun p e => ?_, fun a h => ⟨fun z => z.elim (I.no a h).1 fun ⟨i, sv, e, ho, es⟩ => (I.no a h).2 (I.own i sv a e ho es).2.1, (I.no a h).2⟩, fun q e => ⟨(I.tab q e).1, (I.tab q e).2.grow g rfl⟩, fun a nd e => ⟨(I.mu a nd e).1.grow g rfl, fun z => Or.elim z (I.mu a nd e).2.1 fun ⟨i, sv, e1, ho, es⟩ => (by rw [(I.own i sv a e1 ho es).2.2] at e; cases e), (I.mu a nd e).2.2⟩, I.mu0, I.mz⟩, g⟩
  · obtain ⟨s0, e0, rfl⟩ := bor_get e
    have q := (I.slots i s0 e0).grow g fun _ _ _ => rfl
    have q0 := I.slots i s0 e0
    cases s0 with
    | own xs => obtain ⟨b, vs, e1, r, z, q⟩ := q; exact ⟨.ref b, e1, b, vs, rfl, ⟨.inr ⟨i, _, e0, rfl, e1⟩, r⟩, z, q⟩
    | ownK kvs => obtain ⟨b, vs, e1, r, q⟩ := q; exact ⟨.ref b, e1, b, vs, rfl, ⟨.inr ⟨i, _, e0, rfl, e1⟩, .inl r⟩, q⟩
    | un => trivial
    | d _ => exact q
    | pen => exact q
    | exc _ => exact q
    | lam _ _ _ _ _ => exact q
    | o _ => exact q
  · obtain ⟨s0, _, rfl⟩ := bor_get e
    rw [bor_own] at ho; cases ho
  · obtain ⟨s0, _, rfl⟩ := bor_get e
    rw [bor_own] at ho; cases ho
  · obtain ⟨h1, h2, h3, h4, h5⟩ := I.pen p e
    have no : ∀ b, c.H0 b ≠ none → ¬ ownS ρ σ b := fun b hb ⟨i, sv, e, ho, es⟩ => hb (I.own i sv b e ho es).2.1
    exact ⟨h1, fun z => z.elim h2 (no _ h4), fun z => z.elim h3 (no _ h5), h4, h5⟩
/-- and given back -/
theorem SI.back {S' : Addr → Prop} (I : SI G K c σ H ρ n) (g : Grow (fun a => c.S a ∨ ownS ρ σ a) S' H H') (J : SI G K (c.to S') σ H' (bor ρ) k) :
    SI G K (c.to fun a => S' a ∧ ¬ ownS ρ σ a) σ H' ρ k ∧ Grow c.S (fun a => S' a ∧ ¬ ownS ρ σ a) H H' := by
  have no : ∀ a, c.S a → ¬ ownS ρ σ a := fun a h ⟨i, sv, e, ho, es⟩ => (I.own i sv a e ho es).1 h
  have g2 : Grow c.S (fun a => S' a ∧ ¬ ownS ρ σ a) H H' := ⟨fun a h => ⟨g.sub a (.inl h), no a h⟩, fun a h => g.eq a (.inl h)⟩
  refine ⟨⟨I.len, fun i sv e => (I.slots i sv e).grow g2 fun a ea ho => g.eq a (.inr ⟨i, sv, e, ho, ea⟩), fun i sv a e ho es => ⟨fun z => z.2 ⟨i, sv, e, ho, es⟩, (I.own i sv a e ho es).2.1, ?_⟩, I.apart, fun a h => J.dom a h.1, J.fr, fun p e => ?_, fun a h => ⟨fun z => (J.no a h).1 z.1, (J.no a h).2⟩, fun q e => ⟨(J.tab q e).1, ?_⟩, fun a nd e => ?_, J.mu0, J.mz⟩, g2⟩
  · cases q : k.μ a with
    | none => rfl
    | some nd =>
      have hS := J.muS (by rw [q]; exact fun z => nomatch z)
      exact absurd (g.sub a (.inr ⟨i, sv, e, ho, es⟩)) hS.1
  · obtain ⟨h1, h2, h3, h4, h5⟩ := J.pen p e
    exact ⟨h1, fun z => h2 z.1, fun z => h3 z.1, h4, h5⟩
  · obtain ⟨ps, h1, h2, h3⟩ := (J.tab q e).2
    refine ⟨ps, h1, h2, fun pos cv z => ?_⟩
    obtain ⟨c', e1, e2, e3⟩ := h3 pos cv z
    refine ⟨c', e1, ⟨e2, fun ⟨i, sv, k1, k2, k3⟩ => ?_⟩, e3⟩
    have hh : H' c' = H c' := g.eq c' (.inr ⟨i, sv, k1, k2, k3⟩)
    have q := I.slots i sv k1
    rw [e3] at hh
    cases sv with
    | own xs => obtain ⟨b, vs, u1, r, _⟩ := q; rw [u1] at k3; cases k3; rw [r] at hh; cases hh
    | ownK kvs => obtain ⟨b, vs, u1, r, _⟩ := q; rw [u1] at k3; cases k3; rw [r] at hh; cases hh
    | _ => cases k2
  · obtain ⟨m1, m2, m3, m4⟩ := J.mu a nd e
    exact ⟨m1.move rfl, fun z => m2 z.1, m3, m4⟩
end
end PL

/-! New tuples that are told by their very objects: none of them has a dict of its own. -/
namespace PL
open PySem PySem.Spec PyProof.Rows L2
/-- a new tuple -/
def NewT (H : Hp) (ys : List V) (Q : VK) : Prop := ∀ p o, H p = none → o.dict = none → Q (.ref p) (upd H p (.frz o (.tup ys)))
section
variable {X : Cx} {pins : List (Addr × Obj)} {σ : L2.St} {H : Hp} {s : Shared}
theorem newT {ys : List V} {its : List Value} {Q : VK} {n : Nat} (I : Inv X pins σ H s) (r : Vals ys its) (hz : ys.length ≤ sizeLine) (q : NewT H ys Q) : EP X pins σ Q (.ref s.heap.objs.size) { s with heap := s.heap.push { cls := .type "tuple", data := .seq its.toArray n } } :=
  ⟨.ref s.heap.objs.size, _, I.laid (t' := s.toks) (o := .frz { cls := .type "tuple", data := .seq its.toArray n } (.tup ys)) (fun b u e => Heap.get?_push_of_some _ e) (Nat.le_refl _) ⟨Heap.get?_push_size _ rfl, hz, its, r, ⟨_, Heap.get?_push_size _ rfl, rfl, _, rfl⟩⟩, rfl, q _ _ (I.hok.fresh (Nat.le_refl _)) rfl⟩
def tTupZ (t : TA) : TE := fun σ H Q => t σ H fun xs H1 => xs.length ≤ sizeLine ∧ NewT H1 xs Q
theorem pe_tupZ {es : List Expr} {x1 : Nat} {pos : Pos} {t : TA} (h : PA X es t) : PE X (.Tuple es x1 pos) (tTupZ t) := by
  refine ⟨fun pins s σ H Q I hq => ?_⟩
  exact wpAny_Tuple_spliced (thn (h.run pos pins s σ H _ I hq) fun us s1 ⟨xs, H1, I1, r, z, q⟩ => ⟨by rw [← r.length]; exact z, newT I1 r z q⟩)
def rCatZ (K : PySem.W.Frag) : R2 := fun x y H Q => ∃ a b xs ys, x = .ref a ∧ y = .ref b ∧ SqT K H a xs ∧ SqT K H b ys ∧ xs.length + ys.length ≤ sizeLine ∧
  (xs = [] → Q (.ref b) H) ∧ (xs ≠ [] → ys = [] → Q (.ref a) H) ∧ (xs ≠ [] → ys ≠ [] → NewT H (xs ++ ys) Q)
theorem op_catZ : OpR X (binaryOp .Add) (rCatZ X.K) := by
  intro pins s σ H x y v u Q I rx ry h
  obtain ⟨a, b, xs, ys, rfl, rfl, ha, hb, hz, q0, q1, q2⟩ := h
  cases rx
  cases ry
  obtain ⟨its, r1, p1, _⟩ := I.tuple ha
  obtain ⟨its2, r2, p2, _⟩ := I.tuple hb
  by_cases hx : xs = []
  · subst hx
    cases r1
    exact cat_tup0 p1 p2 ⟨.ref b, H, I, rfl, q0 rfl⟩
  · refine HT.cat_tup p1 p2 (fun z => hx (r1.nil_iff.mp z)) (fun z => ⟨.ref a, H, I, rfl, q1 hx (r2.nil_iff.mp z)⟩) (fun z => ?_) (by rw [← r1.length, ← r2.length]; exact hz)
    exact newT I (r1.append r2) (by rw [List.length_append]; exact hz) (q2 hx fun w => z (r2.nil_iff.mpr w))
def rSlZ (K : PySem.W.Frag) : V → Option Int → Option Int → Hp → VK → Prop := fun x lo hi H Q => ∃ a xs, x = .ref a ∧ SqT K H a xs ∧
  (HT.sIx xs.length 0 lo = 0 ∧ HT.sIx xs.length xs.length hi = xs.length → Q (.ref a) H) ∧ (¬ (HT.sIx xs.length 0 lo = 0 ∧ HT.sIx xs.length xs.length hi = xs.length) → NewT H (cutV xs lo hi) Q)
theorem sl_tupZ : SlR X (rSlZ X.K) := by
  intro pins s σ H x v vl vu lo hi sl Q I rx hs pl pu h
  obtain ⟨a, xs, rfl, hx, q1, q2⟩ := h
  cases rx
  obtain ⟨its, r, ht, hz⟩ := I.tuple hx
  have hlen : its.toArray.size = xs.length := by rw [List.size_toArray]; exact r.length.symm
  refine ⟨"tuple", _, PyProof.Rows.slot_tuple_getitem.lookup, ht.typeIs, ?_⟩
  by_cases hw : HT.sIx xs.length 0 lo = 0 ∧ HT.sIx xs.length xs.length hi = xs.length
  · exact getItem_tuple_whole ht hs pl pu (by rw [hlen]; exact hw) ⟨.ref a, H, I, rfl, q1 hw⟩
  · refine HT.getItem_tuple_cut ht hs pl pu (by rw [hlen]; exact hw) ?_ (by rw [hlen]; exact hz)
    rw [hlen]
    exact newT I ((r.drop (HT.sIx xs.length 0 lo)).take (HT.sIx xs.length xs.length hi - HT.sIx xs.length 0 lo)) (Nat.le_trans (cutV_length xs lo hi) hz) (q2 hw)
theorem call_tupleZ : CallR X (.type "tuple") (fun xs H Q => ∃ p ys, xs = [.ref p] ∧ ((SqL X.K H p ys ∧ NewT H ys Q) ∨ (SqT X.K H p ys ∧ Q (.ref p) H))) := by
  intro pins s σ H xs us Q I r h
  obtain ⟨p, ys, rfl, h⟩ := h
  obtain ⟨u, rfl, rx⟩ := vals1 r
  cases rx
  rcases h with ⟨hq, q⟩ | ⟨hq, q⟩
  · obtain ⟨its, r', pl, hz⟩ := I.list hq
    have hlen := r'.length
    refine call_tuple_list pl.isList (fun h' kp => ?_) (by simp only [List.size_toArray] <;> omega)
    have I1 : Inv X pins σ H { s with heap := h' } := I.kept (t' := s.toks) kp
    exact newT I1 r' hz q
  · obtain ⟨its, r', pl, hz⟩ := I.tuple hq
    exact call_tuple_same pl ⟨.ref p, H, I, rfl, q⟩
end
end PL

/-! The layer's expressions. -/
namespace PL
open PySem PySem.Spec L2

mutual
/-- data as the library's own data (a dict is not carried) -/
def py : D → PyData
  | .non => .none
  | .bl b => .bool b
  | .int i => .int i
  | .str x => .str x
  | .lst xs => .list (pys xs)
  | .tup xs => .tuple (pys xs)
  | .dic kvs => .dict (pyk kvs)
  | .ins _ _ _ => .dict [(.int (2 ^ 2000), .none)]
def pys : List D → List PyData
  | [] => []
  | x :: xs => py x :: pys xs
def pyk : List (Key × D) → List (PyData × PyData)
  | [] => []
  | (.inl i, x) :: r => (.int i, py x) :: pyk r
  | (.inr s, x) :: r => (.str s, py x) :: pyk r
end
def okD (d : D) : Bool := SeqAt.shaped (py d)

def nm (ρ : Env) (i : Nat) : W D := match ρ[i]? with
  | some (.d x) => ret x
  | _ => stuck
def addD : D → D → W D
  | .int i, .int j => ret (.int (i + j))
  | .str a, .str b => grd (a.length + b.length ≤ sizeLine) (ret (.str (a ++ b)))
  | .tup xs, .tup ys => grd (xs.length + ys.length ≤ sizeLine) (ret (.tup (xs ++ ys)))
  | .lst xs, .lst ys => grd (xs.length + ys.length ≤ sizeLine) (ret (.lst (xs ++ ys)))
  | _, _ => stuck
def subD : D → D → W D
  | .int i, .int j => ret (.int (i - j))
  | _, _ => stuck
/-- a product is within bounds -/
def CM (i j : Int) : Prop := CMul i j ∨ CMulW i j
def mulD : D → D → W D
  | .int i, .int j => grd (CM i j) (ret (.int (i * j)))
  | _, _ => stuck
def modD : D → D → W D
  | .int i, .int j => grd (0 < j) (ret (.int (i % j)))
  | _, _ => stuck
def powD : D → D → W D
  | .int i, .int j => grd (CPow i j) (ret (.int (i ^ j.toNat)))
  | _, _ => stuck
def negD : D → W D
  | .int i => ret (.int (-i))
  | _ => stuck
/-- two lists of unlike length -/
def difL : D → D → Bool
  | .lst xs, .lst ys => xs.length != ys.length
  | _, _ => false
theorem pys_len : ∀ xs : List D, (pys xs).length = xs.length
  | [] => rfl
  | x :: xs => by show _ + 1 = _ + 1; rw [pys_len xs]
theorem eqvAll_len : ∀ xs ys : List PyData, xs.length ≠ ys.length → PyData.eqvAll xs ys = false
  | [], [], h => absurd rfl h
  | [], _ :: _, _ => by simp [PyData.eqvAll]
  | _ :: _, [], _ => by simp [PyData.eqvAll]
  | x :: xs, y :: ys, h => by
    have ih := eqvAll_len xs ys fun e => h (by show _ + 1 = _ + 1; rw [e])
    simp [PyData.eqvAll, ih]
theorem difL_eqv {a b : D} (h : difL a b = true) : ∃ xs ys, a = .lst xs ∧ b = .lst ys ∧ xs.length ≠ ys.length ∧ PyData.eqv (py a) (py b) = false := by
  unfold difL at h
  split at h
  · rename_i xs ys
    have hn : xs.length ≠ ys.length := by simpa using h
    refine ⟨xs, ys, rfl, rfl, hn, ?_⟩
    simp only [py, PyData.eqv]
    exact eqvAll_len _ _ (by rw [pys_len, pys_len]; exact hn)
  · cases h
def strS : D → D → Bool
  | .str _, .str _ => true
  | _, _ => false
def eqQ (a b : D) : Prop := (okD a = true ∧ okD b = true) ∨ difL a b = true ∨ strS a b = true
def eqD (a b : D) : W D := grd (eqQ a b) (ret (.bl (PyData.eqv (py a) (py b))))
def neD (a b : D) : W D := grd (eqQ a b) (ret (.bl (!PyData.eqv (py a) (py b))))
def ltD : D → D → W D
  | .int i, .int j => ret (.bl (decide (i < j)))
  | .str a, .str b => ret (.bl (decide (a.cps.toList < b.cps.toList)))
  | _, _ => stuck
def leD : D → D → W D
  | .int i, .int j => ret (.bl (decide (i ≤ j)))
  | .str a, .str b => ret (.bl (!decide (b.cps.toList < a.cps.toList)))
  | _, _ => stuck
def gtD : D → D → W D
  | .int i, .int j => ret (.bl (decide (j < i)))
  | .str a, .str b => ret (.bl (decide (b.cps.toList < a.cps.toList)))
  | _, _ => stuck
def isNone (a : D) : Bool := match a with
  | .non => true
  | _ => false
/-- a is None, a is not None -/
def isND (a b : D) : W D := match b with
  | .non => ret (.bl (isNone a))
  | .bl y => match a with
    | .bl x => ret (.bl (decide (x = y)))
    | _ => stuck
  | _ => stuck
def scEq : D → D → Bool
  | .non, .non => true
  | .bl a, .bl b => a == b
  | .int i, .int j => i == j
  | .bl a, .int j => (if a then 1 else 0) == j
  | .int i, .bl b => i == (if b then 1 else 0)
  | .str x, .str y => x == y
  | _, _ => false

def tru : D → W Bool
  | .non => ret false
  | .bl b => ret b
  | .int i => ret (i != 0)
  | .str x => ret ((x.length : Int) != 0)
  | .lst xs => ret (!xs.isEmpty)
  | .tup xs => ret (!xs.isEmpty)
  | .dic _ => stuck
  | .ins _ _ _ => stuck
def items : D → W (List D)
  | .lst xs => ret xs
  | .tup xs => ret xs
  | _ => stuck
def ixD : D → D → W D
  | .lst xs, .int i => match atI xs i with
    | some x => ret x
    | none => stuck
  | .tup xs, .int i => match atI xs i with
    | some x => ret x
    | none => stuck
  | .str z, .int i => match atI z.cps.toList i with
    | some k => ret (.str ⟨#[k]⟩)
    | none => stuck
  | _, _ => stuck
def lenD : D → W D
  | .lst xs => ret (.int xs.length)
  | .tup xs => ret (.int xs.length)
  | .str x => ret (.int x.length)
  | .dic kvs => ret (.int kvs.length)
  | _ => stuck
def one (f : D → W D) : List D → W D
  | [x] => f x
  | _ => stuck
def two (f : D → D → W D) : List D → W D
  | [x, y] => f x y
  | _ => stuck
def cutD {α : Type} (xs : List α) (lo hi : Option Int) : List α := (xs.drop (HT.sIx xs.length 0 lo)).take (HT.sIx xs.length xs.length hi - HT.sIx xs.length 0 lo)

section
variable {G : PenK} {X : Cx} {Wx : WX}

/-! ### by values -/
def V1 (G : PenK) (X : Cx) (Wx : WX) (h : D → W D) (r : V → Hp → VK → Prop) : Prop :=
  ∀ c σ ρ H n P PX d v Q, SI G X.K c σ H ρ n → Rep X.K c.S H d v → h d n P PX → Gl1 G X c σ ρ H P Q → OKx G X Wx c σ ρ H PX → r v H Q
def V2 (G : PenK) (X : Cx) (Wx : WX) (h : D → D → W D) (r : R2) : Prop :=
  ∀ c σ ρ H n P PX d e v w Q, SI G X.K c σ H ρ n → Rep X.K c.S H d v → Rep X.K c.S H e w → h d e n P PX → Gl1 G X c σ ρ H P Q → OKx G X Wx c σ ρ H PX → r v w H Q
def VA (G : PenK) (X : Cx) (Wx : WX) (h : List D → W D) (r : List V → Hp → VK → Prop) : Prop :=
  ∀ c σ ρ H n P PX ds vs Q, SI G X.K c σ H ρ n → Reps X.K c.S H ds vs → h ds n P PX → Gl1 G X c σ ρ H P Q → OKx G X Wx c σ ρ H PX → r vs H Q
/-- a new list as the answer -/
theorem GlO.new {c : C} {σ : L2.St} {ρ : Env} {H : Hp} {n : Nt} {P : List D → Nt → Prop} {Q : VK} (h : GlO G X c σ ρ H P Q) {xs : List D} {vs : List V} {a : Addr} (p : P xs n) (I : SI G X.K c σ H ρ n) (hp : H a = none)
    (z : xs.length ≤ sizeLine) (r : Reps X.K c.S H xs vs) : Q (.ref a) (upd H a (.lst vs)) := by
  have ne : ∀ b, H b ≠ none → b ≠ a := fun b q e => q (e ▸ hp)
  have g : Grow c.S c.S H (upd H a (.lst vs)) := ⟨fun _ q => q, fun b q => upd_ne (ne b (I.dom b q))⟩
  have I' : SI G X.K c σ (upd H a (.lst vs)) ρ n := ⟨I.len, fun i sv e => (I.slots i sv e).grow g fun b eb ho => upd_ne (ne b (I.own_there ⟨i, sv, e, ho, eb⟩)), I.own, I.apart, fun b q => by rw [upd_ne (ne b (I.dom b q))]; exact I.dom b q,
    fun b u e q => by
      have := I.fr b u e q
      rw [upd_ne (ne b (by rw [this]; exact fun z => nomatch z))]
      exact this, fun q e => by
      obtain ⟨h1, h2, h3, h4, h5⟩ := I.pen q e
      obtain ⟨k1, k2⟩ := G.there h1
      exact ⟨G.dep h1 (upd_ne (ne _ k1)) (upd_ne (ne _ k2)), h2, h3, h4, h5⟩, I.no, fun q e => ⟨(I.tab q e).1, (I.tab q e).2.grow g (upd_ne (ne _ (I.tabN e).2.2))⟩, fun b nd e => ⟨(I.mu b nd e).1.grow g (upd_ne (ne _ (I.mu b nd e).1.there)), (I.mu b nd e).2⟩, I.mu0, I.mz⟩
  exact h xs n a vs c.S _ p g I' upd_same z (Reps.grow g _ _ r) ⟨⟨fun q => I.dom a q hp, I.freeOld hp, I.freeM hp⟩, fun i sv e ho es => I.own_there ⟨i, sv, e, ho, es⟩ hp⟩

/-- a new list may stay -/
theorem EO.e {e : Expr} {g : Env → W (List D)} (h : EO G X Wx e g) : E G X Wx e (fun ρ => bnd (g ρ) fun xs => ret (.lst xs)) :=
  weakE h fun σ H Q ⟨c, ρ, n, P, PX, I, q, hg, hx⟩ => tO.bnd I q hx fun xs k a vs S' H' p g I' _ e z r f => by
    obtain ⟨I2, g2⟩ := I'.adopt f (by rw [e]; exact fun z => nomatch z)
    exact hg (.lst xs) k (.ref a) _ H' p (g.trans g2) I2 ⟨a, vs, rfl, ⟨.inr rfl, e⟩, z, Reps.grow g2 _ _ r⟩

/-! ### names, constants -/
theorem e_nm (i : Nat) {x : Str} {pos : Pos} (hN : X.N[i]? = some x := by rfl) (hv : Vis X.env.scope x := by first | exact Or.inl rfl | exact Or.inr (Or.inl rfl) | exact Or.inr (Or.inr rfl)) (hd : (x == ("__debug__" : Str)) = false := by decide)
    (hcd : (x == ("__classdict__" : Str)) = false := by decide) : E G X Wx (.Name x pos) (fun ρ => nm ρ i) :=
  weakE (pe_var hN hv hd hcd) fun σ H Q ⟨c, ρ, n, P, PX, I, q, hg, hx⟩ => by
    have q : nm ρ i n P PX := q
    unfold nm at q
    cases e : ρ[i]? with
    | none => rw [e] at q; exact q.elim
    | some sv =>
      rw [e] at q
      cases sv with
      | d x =>
        obtain ⟨v, e2, r⟩ := I.slots i _ e
        exact ⟨v, slot_some e2, hg.at q I r⟩
      | un => exact q.elim
      | own _ => exact q.elim
      | ownK _ => exact q.elim
      | pen => exact q.elim
      | exc _ => exact q.elim
      | lam _ _ _ _ _ => exact q.elim
      | o _ => exact q.elim
theorem e_cst {e : Expr} {v : V} {d : D} (h : PE X e (tC v)) (r : ∀ S H, Rep X.K S H d v) : E G X Wx e (fun _ => ret d) :=
  weakE h fun σ H Q ⟨c, ρ, n, P, PX, I, q, hg, hx⟩ => hg.at q I (r _ _)
theorem e_int {i : Int} {j pos} : E G X Wx (.Constant (.int i) j pos) (fun _ => ret (.int i)) := e_cst pe_int fun _ _ => rfl
theorem e_bl {b : Bool} {j pos} : E G X Wx (.Constant (.bool b) j pos) (fun _ => ret (.bl b)) := e_cst pe_bl fun _ _ => rfl
theorem e_non {j pos} : E G X Wx (.Constant .none j pos) (fun _ => ret .non) := e_cst pe_non fun _ _ => rfl
theorem e_str {x : Str} {j pos} (hz : x.length ≤ sizeLine := by decide +kernel) : E G X Wx (.Constant (.str x) j pos) (fun _ => ret (.str x)) := e_cst pe_str fun _ _ => ⟨rfl, hz⟩
/-- a constant of the module -/
theorem e_gs {x y : Str} {t : Tok} {pos : Pos} (hm : X.mg x = some (.str y t)) (hz : y.length ≤ sizeLine := by decide +kernel) (hg : Gl X x := by rfl) (hd : (x == ("__debug__" : Str)) = false := by decide) : E G X Wx (.Name x pos) (fun _ => ret (.str y)) :=
  e_cst (v := .str y) (pe_glob hg hm ⟨t, rfl⟩ hd) fun _ _ => ⟨rfl, hz⟩
theorem e_gi {x : Str} {i : Int} {t : Tok} {pos : Pos} (hm : X.mg x = some (.int i t)) (hg : Gl X x := by rfl) (hd : (x == ("__debug__" : Str)) = false := by decide) : E G X Wx (.Name x pos) (fun _ => ret (.int i)) :=
  e_cst (v := .int i) (pe_glob hg hm ⟨t, rfl⟩ hd) fun _ _ => rfl

/-! ### two parts, a rule by values -/
theorem two_parts {e : Expr} {a b : Expr} {ga gb : Env → W D} {h : D → D → W D} {r : R2} (v : V2 G X Wx h r) (ha : E G X Wx a ga) (hb : E G X Wx b gb)
    (he : PE X e (tOp r (tE G X Wx ga) (tE G X Wx gb))) : E G X Wx e (fun ρ => bnd (ga ρ) fun x => bnd (gb ρ) fun y => h x y) :=
  weakE he fun σ H Q ⟨c, ρ, n, P, PX, I, q, hg, hx⟩ => tE.bnd I q hx fun d k u S' H' p g I' hx' r' =>
    tE.bnd I' p hx' fun d2 k2 u2 S2 H2 p2 g2 I2 hx2 r2 => v _ σ ρ H2 k2 P PX d d2 u u2 Q I2 (Rep.grow g2 _ _ r') r2 p2 (hg.grow (g.trans g2)) hx2
theorem e_op {op : Operator} {a b : Expr} {pos : Pos} {ga gb : Env → W D} {h : D → D → W D} {r : R2} (o : OpR X (binaryOp op) r) (v : V2 G X Wx h r) (ha : E G X Wx a ga) (hb : E G X Wx b gb) :
    E G X Wx (.BinOp a op b pos) (fun ρ => bnd (ga ρ) fun x => bnd (gb ρ) fun y => h x y) := two_parts v ha hb (pe_op o ha hb)
theorem e_un {op : UnaryOp} {a : Expr} {pos : Pos} {ga : Env → W D} {h : D → W D} {r : V → Hp → VK → Prop} (o : UnR X (unaryOp op) r) (v : V1 G X Wx h r) (ha : E G X Wx a ga) :
    E G X Wx (.UnaryOp op a pos) (fun ρ => bnd (ga ρ) h) :=
  weakE (pe_un o ha) fun σ H Q ⟨c, ρ, n, P, PX, I, q, hg, hx⟩ => tE.bnd I q hx fun d k u S' H' p g I' hx' r' => v _ σ ρ H' k P PX d u Q I' r' p (hg.grow g) hx'
theorem e_cmpR {op : CmpOp} {a b : Expr} {pos : Pos} {ga gb : Env → W D} {h : D → D → W D} {r : R2} (o : OpR X (compareOp op) r) (v : V2 G X Wx h r) (ha : E G X Wx a ga) (hb : E G X Wx b gb) (hm : behindInMarks op b = false := by rfl) :
    E G X Wx (.Compare a [op] [b] pos) (fun ρ => bnd (ga ρ) fun x => bnd (gb ρ) fun y => h x y) := two_parts v ha hb (pe_cmpR o ha hb hm)

theorem v2_add : V2 G X Wx addD (fun x y H Q => (∃ i j, x = .int i ∧ y = .int j ∧ Q (.int (i + j)) H) ∨ (∃ i j, x = .str i ∧ y = .str j ∧ i.length + j.length ≤ sizeLine ∧ Q (.str (i ++ j)) H) ∨ rCatZ X.K x y H Q ∨ rCat x y H Q) := by
  intro c σ ρ H n P PX d e v w Q I rd re h hg hx
  cases d with
  | int i =>
    cases e with
    | int j => cases rd; cases re; exact .inl ⟨i, j, rfl, rfl, hg.at (d := .int (i + j)) h I rfl⟩
    | _ => exact h.elim
  | str a =>
    cases e with
    | str b =>
      obtain ⟨rfl, z1⟩ := rd
      obtain ⟨rfl, z2⟩ := re
      obtain ⟨z, h⟩ := h
      exact .inr (.inl ⟨a, b, rfl, rfl, z, hg.at (d := .str (a ++ b)) h I ⟨rfl, by rw [PySem.Str.length_append]; exact z⟩⟩)
    | _ => exact h.elim
  | tup xs =>
    cases e with
    | tup ys =>
      obtain ⟨z, h⟩ := h
      obtain ⟨a, vs, rfl, r1, z1, q1⟩ := id rd
      obtain ⟨b, ws, rfl, r2, z2, q2⟩ := id re
      have l1 := q1.len
      have l2 := q2.len
      refine .inr (.inr (.inl ⟨a, b, vs, ws, rfl, rfl, r1.sq, r2.sq, by omega, fun e => ?_, fun _ e => ?_, fun _ _ p o hp hd => ?_⟩))
      · have e' : xs = [] := by
          subst e
          exact List.eq_nil_of_length_eq_zero l1.symm
        subst e'
        exact hg.at h I re
      · have e' : ys = [] := by
          subst e
          exact List.eq_nil_of_length_eq_zero l2.symm
        subst e'
        rw [List.append_nil] at h
        exact hg.at h I rd
      · exact hg.new h I hp fun g => ⟨p, vs ++ ws, rfl, .inl ⟨.inr rfl, o, upd_same, hd⟩, by rw [List.length_append]; exact z, Reps.app (Reps.grow g _ _ q1) (Reps.grow g _ _ q2)⟩
    | _ => exact h.elim
  | lst xs =>
    cases e with
    | lst ys =>
      obtain ⟨z, h⟩ := h
      obtain ⟨a, vs, rfl, r1, z1, q1⟩ := rd
      obtain ⟨b, ws, rfl, r2, z2, q2⟩ := re
      have l1 := q1.len
      have l2 := q2.len
      exact .inr (.inr (.inr ⟨a, b, vs, ws, rfl, rfl, r1.2, r2.2, by omega, fun p hp => hg.new h I hp fun g => ⟨p, vs ++ ws, rfl, ⟨.inr rfl, upd_same⟩, by rw [List.length_append]; exact z, Reps.app (Reps.grow g _ _ q1) (Reps.grow g _ _ q2)⟩⟩))
    | _ => exact h.elim
  | _ => exact h.elim
theorem e_add {a b : Expr} {pos : Pos} {ga gb : Env → W D} (ha : E G X Wx a ga) (hb : E G X Wx b gb) : E G X Wx (.BinOp a .Add b pos) (fun ρ => bnd (ga ρ) fun x => bnd (gb ρ) fun y => addD x y) :=
  e_op (op_add.or (op_add_str.or (op_catZ.or op_cat))) v2_add ha hb
theorem v2_ints {h : D → D → W D} {C : Int → Int → Prop} {g : Int → Int → Int} (hh : ∀ d e n P PX, h d e n P PX → ∃ i j, d = .int i ∧ e = .int j ∧ C i j ∧ P (.int (g i j)) n) : V2 G X Wx h (rI C fun i j => .int (g i j)) := by
  intro c σ ρ H n P PX d e v w Q I rd re q hg hx
  obtain ⟨i, j, rfl, rfl, q1, q2⟩ := hh d e n P PX q
  cases rd; cases re
  exact ⟨i, j, rfl, rfl, q1, hg.at (d := .int (g i j)) q2 I rfl⟩
theorem e_sub {a b : Expr} {pos : Pos} {ga gb : Env → W D} (ha : E G X Wx a ga) (hb : E G X Wx b gb) : E G X Wx (.BinOp a .Sub b pos) (fun ρ => bnd (ga ρ) fun x => bnd (gb ρ) fun y => subD x y) :=
  e_op op_sub (by
    intro c σ ρ H n P PX d e v w Q I rd re q hg hx
    unfold subD at q
    split at q
    · cases rd; cases re; exact ⟨_, _, rfl, rfl, hg.at (d := .int _) q I rfl⟩
    · exact q.elim) ha hb
theorem op_mulM : OpR X (binaryOp .Mult) (rI CM fun i j => .int (i * j)) := fun pins s σ H x y v u Q I rx ry ⟨i, j, ex, ey, c, q⟩ => c.elim (fun c => op_mul pins s σ H x y v u Q I rx ry ⟨i, j, ex, ey, c, q⟩) fun c => op_mulW pins s σ H x y v u Q I rx ry ⟨i, j, ex, ey, c, q⟩
theorem e_mul {a b : Expr} {pos : Pos} {ga gb : Env → W D} (ha : E G X Wx a ga) (hb : E G X Wx b gb) : E G X Wx (.BinOp a .Mult b pos) (fun ρ => bnd (ga ρ) fun x => bnd (gb ρ) fun y => mulD x y) :=
  e_op op_mulM (v2_ints fun d e n P PX q => by
    unfold mulD at q
    split at q
    · exact ⟨_, _, rfl, rfl, q.1, q.2⟩
    · exact q.elim) ha hb
theorem e_mod {a b : Expr} {pos : Pos} {ga gb : Env → W D} (ha : E G X Wx a ga) (hb : E G X Wx b gb) : E G X Wx (.BinOp a .Mod b pos) (fun ρ => bnd (ga ρ) fun x => bnd (gb ρ) fun y => modD x y) :=
  e_op op_mod (v2_ints (C := fun _ j => 0 < j) fun d e n P PX q => by
    unfold modD at q
    split at q
    · exact ⟨_, _, rfl, rfl, q.1, q.2⟩
    · exact q.elim) ha hb
theorem e_pow {a b : Expr} {pos : Pos} {ga gb : Env → W D} (ha : E G X Wx a ga) (hb : E G X Wx b gb) : E G X Wx (.BinOp a .Pow b pos) (fun ρ => bnd (ga ρ) fun x => bnd (gb ρ) fun y => powD x y) :=
  e_op op_pow (v2_ints fun d e n P PX q => by
    unfold powD at q
    split at q
    · exact ⟨_, _, rfl, rfl, q.1, q.2⟩
    · exact q.elim) ha hb
theorem e_neg {a : Expr} {pos : Pos} {ga : Env → W D} (ha : E G X Wx a ga) : E G X Wx (.UnaryOp .USub a pos) (fun ρ => bnd (ga ρ) negD) :=
  e_un un_neg (by
    intro c σ ρ H n P PX d v Q I rd q hg hx
    cases d with
    | int i => cases rd; exact ⟨i, rfl, hg.at (d := .int (-i)) q I rfl⟩
    | _ => exact q.elim) ha

/-! ### comparisons -/
mutual
theorem Rep.dp {K : PySem.W.Frag} {S : Addr → Prop} {H : Hp} : ∀ (d : D) (v : V), (py d).canLay0 = true → Rep K S H d v → Dp K H v (py d)
  | .non, _, _, h => by cases h; exact .non
  | .bl _, _, _, h => by cases h; exact .bl _
  | .int _, _, _, h => by cases h; exact .int _
  | .str _, _, _, h => by obtain ⟨rfl, _⟩ := h; exact .str _
  | .lst xs, _, l, h => by
    obtain ⟨a, vs, rfl, r, _, q⟩ := h
    exact .lst r.sq (Reps.dp xs vs (by simpa [py, PyData.canLay0] using l) q)
  | .tup xs, _, l, h => by
    obtain ⟨a, vs, rfl, r, _, q⟩ := h
    exact .tup r.sq (Reps.dp xs vs (by simpa [py, PyData.canLay0] using l) q)
  | .dic kvs, _, l, h => by simp [py, PyData.canLay0] at l
  | .ins _ _ _, _, l, h => by unfold py PyData.canLay0 at l; cases l
theorem Reps.dp {K : PySem.W.Frag} {S : Addr → Prop} {H : Hp} : ∀ (xs : List D) (vs : List V), PyData.canLayAll0 (pys xs) = true → Reps K S H xs vs → DpAll K H vs (pys xs)
  | [], _, _, h => by
    have e : _ = [] := h
    rw [e]
    exact .nil
  | x :: xs, _, l, h => by
    obtain ⟨v, ws, rfl, r, q⟩ := h
    have l' : (py x).canLay0 = true ∧ PyData.canLayAll0 (pys xs) = true := by simpa [pys, PyData.canLayAll0] using l
    exact .cons (Rep.dp x v l'.1 r) (Reps.dp xs ws l'.2 q)
end
def rLen (K : PySem.W.Frag) (b : Bool) : R2 := fun x y H Q => ∃ p q xs ys, x = .ref p ∧ y = .ref q ∧ SqL K H p xs ∧ SqL K H q ys ∧ xs.length ≠ ys.length ∧ Q (.bl b) H
theorem op_eqLen (hu : X.A.units + 64 < cLine) : OpR X (compareOp .Eq) (rLen X.K false) := by
  intro pins s σ H x y v u Q I rx ry ⟨p, q, xs, ys, e1, e2, h1, h2, hn, k⟩
  subst e1 e2
  cases rx
  cases ry
  obtain ⟨i1, r1, p1, _⟩ := I.list h1
  obtain ⟨i2, r2, p2, _⟩ := I.list h2
  exact SeqAt.eq_list_lengthsAt p1.isList p2.isList (by simp only [List.size_toArray, ← r1.length, ← r2.length]; simpa using hn) (by omega) ⟨.bl false, H, I, rfl, k⟩
theorem op_neLen (hu : X.A.units + 64 < cLine) : OpR X (compareOp .NotEq) (rLen X.K true) := by
  intro pins s σ H x y v u Q I rx ry ⟨p, q, xs, ys, e1, e2, h1, h2, hn, k⟩
  subst e1 e2
  cases rx
  cases ry
  obtain ⟨i1, r1, p1, _⟩ := I.list h1
  obtain ⟨i2, r2, p2, _⟩ := I.list h2
  exact SeqAt.RcNeAt.lists_lengths p1.isList p2.isList (by simp only [List.size_toArray, ← r1.length, ← r2.length]; simpa using hn) (by omega) _ _ _ _ ⟨.bl true, H, I, rfl, k⟩
theorem Rep.len_ne {K : PySem.W.Frag} {S : Addr → Prop} {H : Hp} {xs ys : List D} {v w : V} {b : Bool} {Q : VK} (h : xs.length ≠ ys.length) (rd : Rep K S H (.lst xs) v) (re : Rep K S H (.lst ys) w) (k : Q (.bl b) H) : rLen K b v w H Q := by
  obtain ⟨p, vs, rfl, r1, _, q1⟩ := rd
  obtain ⟨q, ws, rfl, r2, _, q2⟩ := re
  exact ⟨p, q, vs, ws, rfl, rfl, r1.sq, r2.sq, by rw [q1.len, q2.len]; exact h, k⟩
theorem v2_eq : V2 G X Wx eqD (fun x y H Q => (rEqD X.K x y H Q ∨ rLen X.K false x y H Q) ∨ rEq x y H Q) := by
  intro c σ ρ H n P PX d e v w Q I rd re ⟨h, q⟩ hg hx
  rcases h with ⟨h1, h2⟩ | h | h
  · exact .inl (.inl ⟨py d, py e, Rep.dp d v (SeqAt.canLay_of_shaped h1) rd, Rep.dp e w (SeqAt.canLay_of_shaped h2) re, h1, h2, hg.at (d := .bl _) q I rfl⟩)
  · obtain ⟨xs, ys, rfl, rfl, hn, he⟩ := difL_eqv h
    refine .inl (.inr (Rep.len_ne hn rd re ?_))
    have q : P (.bl (PyData.eqv (py (.lst xs)) (py (.lst ys)))) n := q
    rw [he] at q
    exact hg.at (d := .bl false) q I rfl
  · unfold strS at h
    split at h
    · rename_i a b
      obtain ⟨rfl, _⟩ := rd
      obtain ⟨rfl, _⟩ := re
      have q : P (.bl (PyData.eqv (py (.str a)) (py (.str b)))) n := q
      have e2 : PyData.eqv (py (.str a)) (py (.str b)) = decide (V.str a = V.str b) := by
        simp only [py, PyData.eqv]
        by_cases z : a = b
        · subst z; simp
        · have z2 : ¬ V.str a = V.str b := fun k => z (by cases k; rfl)
          simp [z]
      rw [e2] at q
      exact .inr ⟨rfl, hg.at (d := .bl _) q I rfl⟩
    · cases h
theorem v2_ne : V2 G X Wx neD (fun x y H Q => (rNeD X.K x y H Q ∨ rLen X.K true x y H Q) ∨ rNe x y H Q) := by
  intro c σ ρ H n P PX d e v w Q I rd re ⟨h, q⟩ hg hx
  rcases h with ⟨h1, h2⟩ | h | h
  · exact .inl (.inl ⟨py d, py e, Rep.dp d v (SeqAt.canLay_of_shaped h1) rd, Rep.dp e w (SeqAt.canLay_of_shaped h2) re, h1, h2, hg.at (d := .bl _) q I rfl⟩)
  · obtain ⟨xs, ys, rfl, rfl, hn, he⟩ := difL_eqv h
    refine .inl (.inr (Rep.len_ne hn rd re ?_))
    have q : P (.bl (!PyData.eqv (py (.lst xs)) (py (.lst ys)))) n := q
    rw [he] at q
    exact hg.at (d := .bl true) q I rfl
  · unfold strS at h
    split at h
    · rename_i a b
      obtain ⟨rfl, _⟩ := rd
      obtain ⟨rfl, _⟩ := re
      have q : P (.bl (!PyData.eqv (py (.str a)) (py (.str b)))) n := q
      have e2 : PyData.eqv (py (.str a)) (py (.str b)) = decide (V.str a = V.str b) := by
        simp only [py, PyData.eqv]
        by_cases z : a = b
        · subst z; simp
        · have z2 : ¬ V.str a = V.str b := fun k => z (by cases k; rfl)
          simp [z]
      rw [e2] at q
      exact .inr ⟨rfl, hg.at (d := .bl _) q I rfl⟩
    · cases h
/-- ints or texts -/
theorem v2_ord {h : D → D → W D} {fi : Int → Int → Bool} {fs : Str → Str → Bool}
    (hh : ∀ d e n P PX, h d e n P PX → (∃ i j, d = .int i ∧ e = .int j ∧ P (.bl (fi i j)) n) ∨ ∃ i j, d = .str i ∧ e = .str j ∧ P (.bl (fs i j)) n) :
    V2 G X Wx h (fun x y H Q => (∃ i j, x = .int i ∧ y = .int j ∧ Q (.bl (fi i j)) H) ∨ ∃ i j, x = .str i ∧ y = .str j ∧ Q (.bl (fs i j)) H) := by
  intro c σ ρ H n P PX d e v w Q I rd re q hg hx
  rcases hh d e n P PX q with ⟨i, j, rfl, rfl, q2⟩ | ⟨i, j, rfl, rfl, q2⟩
  · cases rd; cases re; exact .inl ⟨i, j, rfl, rfl, hg.at (d := .bl (fi i j)) q2 I rfl⟩
  · obtain ⟨rfl, _⟩ := rd; obtain ⟨rfl, _⟩ := re; exact .inr ⟨i, j, rfl, rfl, hg.at (d := .bl (fs i j)) q2 I rfl⟩
theorem v2_lt : V2 G X Wx ltD (fun x y H Q => (∃ i j, x = .int i ∧ y = .int j ∧ Q (.bl (decide (i < j))) H) ∨ ∃ i j, x = .str i ∧ y = .str j ∧ Q (.bl (decide (i.cps.toList < j.cps.toList))) H) :=
  v2_ord (fi := fun i j => decide (i < j)) (fs := fun i j => decide (i.cps.toList < j.cps.toList)) fun d e n P PX q => by
    unfold ltD at q
    split at q
    · exact .inl ⟨_, _, rfl, rfl, q⟩
    · exact .inr ⟨_, _, rfl, rfl, q⟩
    · exact q.elim
theorem v2_le : V2 G X Wx leD (fun x y H Q => (∃ i j, x = .int i ∧ y = .int j ∧ Q (.bl (decide (i ≤ j))) H) ∨ ∃ i j, x = .str i ∧ y = .str j ∧ Q (.bl (!decide (j.cps.toList < i.cps.toList))) H) :=
  v2_ord (fi := fun i j => decide (i ≤ j)) (fs := fun i j => !decide (j.cps.toList < i.cps.toList)) fun d e n P PX q => by
    unfold leD at q
    split at q
    · exact .inl ⟨_, _, rfl, rfl, q⟩
    · exact .inr ⟨_, _, rfl, rfl, q⟩
    · exact q.elim
theorem v2_gt : V2 G X Wx gtD (fun x y H Q => (∃ i j, x = .int i ∧ y = .int j ∧ Q (.bl (decide (j < i))) H) ∨ ∃ i j, x = .str i ∧ y = .str j ∧ Q (.bl (decide (j.cps.toList < i.cps.toList))) H) :=
  v2_ord (fi := fun i j => decide (j < i)) (fs := fun i j => decide (j.cps.toList < i.cps.toList)) fun d e n P PX q => by
    unfold gtD at q
    split at q
    · exact .inl ⟨_, _, rfl, rfl, q⟩
    · exact .inr ⟨_, _, rfl, rfl, q⟩
    · exact q.elim
theorem Rep.isN {K : PySem.W.Frag} {S : Addr → Prop} {H : Hp} {d : D} {v : V} (r : Rep K S H d v) : decide (v = .non) = isNone d := by
  cases d with
  | non => cases r; rfl
  | bl _ => cases r; rfl
  | int _ => cases r; rfl
  | str _ => obtain ⟨rfl, _⟩ := r; rfl
  | lst _ => obtain ⟨_, _, rfl, _⟩ := r; rfl
  | tup _ => obtain ⟨_, _, rfl, _⟩ := r; rfl
  | dic _ => obtain ⟨_, _, rfl, _⟩ := r; rfl
  | ins _ _ _ => obtain ⟨_, _, _, _, rfl, _⟩ := r; rfl
theorem v2_is : V2 G X Wx isND (fun x y H Q => (y = .non ∧ Q (.bl (decide (x = .non))) H) ∨ rIsB x y H Q) := by
  intro c σ ρ H n P PX d e v w Q I rd re q hg hx
  cases e with
  | non => cases re; exact .inl ⟨rfl, by rw [rd.isN]; exact hg.at (d := .bl _) q I rfl⟩
  | bl y =>
    cases d with
    | bl x => cases re; cases rd; exact .inr ⟨x, y, rfl, rfl, hg.at (d := .bl _) q I rfl⟩
    | _ => exact q.elim
  | _ => exact q.elim
/-- a comparison's rule: operator, function over data -/
structure Cm (G : PenK) (X : Cx) (Wx : WX) (op : CmpOp) (h : D → D → W D) : Prop where
  ex : ∃ r, OpR X (compareOp op) r ∧ V2 G X Wx h r
theorem cm_eq (hu : X.A.units + 64 < cLine) : Cm G X Wx .Eq eqD := ⟨_, ((op_eqD hu).or (op_eqLen hu)).or op_eq, v2_eq⟩
theorem cm_ne (hu : X.A.units + 64 < cLine) : Cm G X Wx .NotEq neD := ⟨_, ((op_neD hu).or (op_neLen hu)).or op_ne, v2_ne⟩
theorem cm_lt : Cm G X Wx .Lt ltD := ⟨_, op_lt.or op_lt_str, v2_lt⟩
theorem cm_le : Cm G X Wx .LtE leD := ⟨_, op_le.or op_le_str, v2_le⟩
theorem cm_gt : Cm G X Wx .Gt gtD := ⟨_, op_gt.or op_gt_str, v2_gt⟩
theorem cm_is : Cm G X Wx .Is isND := ⟨_, op_isN.or op_isBl, v2_is⟩
theorem e_cmp {op : CmpOp} {a b : Expr} {pos : Pos} {ga gb : Env → W D} {h : D → D → W D} (m : Cm G X Wx op h) (ha : E G X Wx a ga) (hb : E G X Wx b gb) (hm : behindInMarks op b = false := by rfl) :
    E G X Wx (.Compare a [op] [b] pos) (fun ρ => bnd (ga ρ) fun x => bnd (gb ρ) fun y => h x y) := by
  obtain ⟨r, o, v⟩ := m.ex
  exact e_cmpR o v ha hb hm
def thenB (m : W D) (k : W D) : W D := bnd m fun z => match z with
  | .bl true => k
  | .bl false => ret (.bl false)
  | _ => stuck
def blB : D → W Bool
  | .bl b => ret b
  | _ => stuck
/-- a value's law as a test's -/
theorem tE_test {g : Env → W D} {σ : L2.St} {H : Hp} {Q : Bool → Hp → Prop} (h : tT G X Wx (fun ρ => bnd (g ρ) blB) σ H Q) : tE G X Wx g σ H (fun x H' => ∃ k, x = .bl k ∧ Q k H') := by
  obtain ⟨c, ρ, n, P, PX, I, q, hg, hx⟩ := h
  refine ⟨c, ρ, n, _, PX, I, q, fun d k v S' H' p g I' r => ?_, hx⟩
  cases d with
  | bl b => cases r; exact ⟨b, rfl, hg b k S' H' p g I'⟩
  | _ => exact p.elim
theorem tOp_law {ga gb : Env → W D} {h : D → D → W D} {r : R2} (v : V2 G X Wx h r) {σ : L2.St} {H : Hp} {Q : VK} (hh : tE G X Wx (fun ρ => bnd (ga ρ) fun x => bnd (gb ρ) fun y => h x y) σ H Q) : tOp r (tE G X Wx ga) (tE G X Wx gb) σ H Q := by
  obtain ⟨c, ρ, n, P, PX, I, q, hg, hx⟩ := hh
  exact tE.bnd I q hx fun d k u S' H' p g I' hx' r' =>
    tE.bnd I' p hx' fun d2 k2 u2 S2 H2 p2 g2 I2 hx2 r2 => v _ σ ρ H2 k2 P PX d d2 u u2 Q I2 (Rep.grow g2 _ _ r') r2 p2 (hg.grow (g.trans g2)) hx2
/-- a test a < b -/
theorem t_cmp {op : CmpOp} {a b : Expr} {pos : Pos} {ga gb : Env → W D} {h : D → D → W D} (m : Cm G X Wx op h) (ha : E G X Wx a ga) (hb : E G X Wx b gb) (hm : behindInMarks op b = false := by rfl) :
    T G X Wx (.Compare a [op] [b] pos) (fun ρ => bnd (bnd (ga ρ) fun x => bnd (gb ρ) fun y => h x y) blB) := by
  obtain ⟨r, o, v⟩ := m.ex
  exact weakT (pt_cmpR o ha hb hm) fun σ H Q q => tOp_law v (tE_test q)
theorem tChain_law {ga gb gd : Env → W D} {h h' : D → D → W D} {r r' : R2} (v : V2 G X Wx h r) (v' : V2 G X Wx h' r') {σ : L2.St} {H : Hp} {Q : VK} (hh : tE G X Wx (fun ρ => bnd (ga ρ) fun x => bnd (gb ρ) fun y => thenB (h x y) (bnd (gd ρ) fun z => h' y z)) σ H Q) : tChain r r' (tE G X Wx ga) (tE G X Wx gb) (tE G X Wx gd) σ H Q := by
  obtain ⟨c, ρ, n, P, PX, I, q, hg, hx⟩ := hh
  refine tE.bnd I q hx fun d1 k u S' H' p g I' hx' r1 =>
    tE.bnd I' p hx' fun d2 k2 u2 S2 H2 p2 g2 I2 hx2 r2 => v _ σ ρ H2 k2 (fun z k => (match z with
      | .bl true => bnd (gd ρ) fun z => h' d2 z
      | .bl false => ret (.bl false)
      | _ => stuck : W D) k P PX) PX d1 d2 u u2 _ I2 (Rep.grow g2 _ _ r1) r2 p2 (fun z k3 w S3 H3 p3 g3 I3 r3 => ?_) hx2
  cases z with
  | bl b =>
    cases r3
    cases b with
    | true => exact ⟨true, rfl, iteT (tE.bnd I3 p3 (hx2.grow g3) fun d4 k4 u4 S4 H4 p4 g4 I4 hx4 r4 => v' _ σ ρ H4 k4 P PX d2 d4 u2 u4 Q I4 (Rep.grow (g3.trans g4) _ _ r2) r4 p4 (hg.grow (g.trans (g2.trans (g3.trans g4)))) hx4)⟩
    | false => exact ⟨false, rfl, iteF ((hg.grow (g.trans (g2.trans g3))).at (d := .bl false) p3 I3 rfl)⟩
  | _ => exact p3.elim
/-- a < b < c -/
theorem e_chain {op op' : CmpOp} {a b d : Expr} {pos : Pos} {ga gb gd : Env → W D} {h h' : D → D → W D} (m : Cm G X Wx op h) (m' : Cm G X Wx op' h') (ha : E G X Wx a ga) (hb : E G X Wx b gb) (hd : E G X Wx d gd)
    (hm : lastMarks [op, op'] [b, d] = false := by with_unfolding_all rfl) :
    E G X Wx (.Compare a [op, op'] [b, d] pos) (fun ρ => bnd (ga ρ) fun x => bnd (gb ρ) fun y => thenB (h x y) (bnd (gd ρ) fun z => h' y z)) := by
  obtain ⟨r, o, v⟩ := m.ex
  obtain ⟨r', o', v'⟩ := m'.ex
  exact weakE (pe_chain o o' ha hb hd hm) fun σ H Q q => tChain_law v v' q
/-- a test a < b < c -/
theorem t_chain {op op' : CmpOp} {a b d : Expr} {pos : Pos} {ga gb gd : Env → W D} {h h' : D → D → W D} (m : Cm G X Wx op h) (m' : Cm G X Wx op' h') (ha : E G X Wx a ga) (hb : E G X Wx b gb) (hd : E G X Wx d gd)
    (hm : lastMarks [op, op'] [b, d] = false := by with_unfolding_all rfl) :
    T G X Wx (.Compare a [op, op'] [b, d] pos) (fun ρ => bnd (bnd (ga ρ) fun x => bnd (gb ρ) fun y => thenB (h x y) (bnd (gd ρ) fun z => h' y z)) blB) := by
  obtain ⟨r, o, v⟩ := m.ex
  obtain ⟨r', o', v'⟩ := m'.ex
  exact weakT (pt_chain o o' ha hb hd hm) fun σ H Q q => tChain_law v v' (tE_test q)
end
end PL

/-! The layer: truth, displays, subscripts, slices, arguments, built-ins. -/
namespace PL
open PySem PySem.Spec L2

section
variable {G : PenK} {X : Cx} {Wx : WX}

/-! ### truth -/
theorem Rep.tru {K : PySem.W.Frag} {S : Addr → Prop} {H : Hp} {d : D} {v : V} {n : Nt} {P : Bool → Nt → Prop} {PX : Exc → Nt → Prop} (r : Rep K S H d v) (q : PL.tru d n P PX) : ∃ b, TruV K v H b ∧ P b n := by
  cases d with
  | non => cases r; exact ⟨_, rfl, q⟩
  | bl _ => cases r; exact ⟨_, rfl, q⟩
  | int _ => cases r; exact ⟨_, rfl, q⟩
  | str _ => obtain ⟨rfl, z⟩ := r; exact ⟨_, ⟨z, rfl⟩, q⟩
  | lst xs =>
    obtain ⟨a, vs, rfl, r1, _, q1⟩ := r
    refine ⟨!xs.isEmpty, .inl ⟨vs, r1.sq, ?_⟩, q⟩
    have := q1.len
    cases xs <;> cases vs <;> first | rfl | cases this
  | tup xs =>
    obtain ⟨a, vs, rfl, r1, _, q1⟩ := r
    refine ⟨!xs.isEmpty, .inr (.inl ⟨vs, r1.sq, ?_⟩), q⟩
    have := q1.len
    cases xs <;> cases vs <;> first | rfl | cases this
  | dic kvs =>
    exact q.elim
  | ins _ _ _ => exact q.elim
theorem t_truth {e : Expr} {g : Env → W D} (h : E G X Wx e g) (he : ∀ whole, isTrue e X.env whole = (do let v ← whole; standAt e.pos; holding [v] (truthy v)) := by intro _; rfl) : T G X Wx e (fun ρ => bnd (g ρ) tru) :=
  weakT (pt_truth h he) fun σ H Q ⟨c, ρ, n, P, PX, I, q, hg, hx⟩ => tE.bnd I q hx fun d k u S' H' p g I' hx' r => by
    obtain ⟨b, h1, h2⟩ := r.tru p
    exact ⟨b, h1, hg b k S' H' h2 g I'⟩
theorem t_not {e : Expr} {pos : Pos} {g : Env → W Bool} (h : T G X Wx e g) : T G X Wx (.UnaryOp .Not e pos) (fun ρ => bnd (g ρ) fun b => ret (!b)) :=
  weakT (pt_not h) fun σ H Q ⟨c, ρ, n, P, PX, I, q, hg, hx⟩ => tT.bnd I q hx fun b k S' H' p g I' hx' => hg (!b) k S' H' p g I'
def TW (G : PenK) (X : Cx) (Wx : WX) (e : Expr) (g : Env → W Bool) : Prop := PW X e (tT G X Wx g)
theorem tw_or1 {e : Expr} {pos : Pos} {g : Env → W Bool} (h : T G X Wx e g) : TW G X Wx (.BoolOp .Or [e] pos) g := pw_or1 h
theorem tw_or {a b : Expr} {rest : List Expr} {pos : Pos} {ga gb : Env → W Bool} (ha : T G X Wx a ga) (hb : TW G X Wx (.BoolOp .Or (b :: rest) pos) gb) :
    TW G X Wx (.BoolOp .Or (a :: b :: rest) pos) (fun ρ => bnd (ga ρ) fun x => if x = true then ret true else gb ρ) :=
  weakW (pw_or ha hb) fun σ H Q ⟨c, ρ, n, P, PX, I, q, hg, hx⟩ => tT.bnd I q hx fun b k S' H' p g I' hx' => by
    cases b with
    | true => exact iteT (hg true k S' H' p g I')
    | false => exact iteF ⟨_, ρ, k, P, PX, I', p, hg.grow g, hx'⟩
theorem TW.t {e : Expr} {g : Env → W Bool} (h : TW G X Wx e g) : T G X Wx e g := PW.pt h
/-- and, or as values -/
theorem e_one {op} {a : Expr} {pos : Pos} {g : Env → W D} (h : E G X Wx a g) : E G X Wx (.BoolOp op [a] pos) g := pe_one h
theorem e_and {a b : Expr} {rest : List Expr} {pos : Pos} {ga gb : Env → W D} (ha : E G X Wx a ga) (hb : E G X Wx (.BoolOp .And (b :: rest) pos) gb) :
    E G X Wx (.BoolOp .And (a :: b :: rest) pos) (fun ρ => bnd (ga ρ) fun x => bnd (tru x) fun k => if k = true then gb ρ else ret x) :=
  weakE (pe_andT ha hb) fun σ H Q ⟨c, ρ, n, P, PX, I, q, hg, hx⟩ => tE.bnd I q hx fun d k u S' H' p g I' hx' r => by
    obtain ⟨b, h1, h2⟩ := r.tru p
    refine ⟨b, h1, ?_⟩
    cases b with
    | true => exact iteT ⟨_, ρ, k, P, PX, I', h2, hg.grow g, hx'⟩
    | false => exact iteF (hg d k u S' H' h2 g I' r)
theorem e_or {a b : Expr} {rest : List Expr} {pos : Pos} {ga gb : Env → W D} (ha : E G X Wx a ga) (hb : E G X Wx (.BoolOp .Or (b :: rest) pos) gb) :
    E G X Wx (.BoolOp .Or (a :: b :: rest) pos) (fun ρ => bnd (ga ρ) fun x => bnd (tru x) fun k => if k = true then ret x else gb ρ) :=
  weakE (pe_orT ha hb) fun σ H Q ⟨c, ρ, n, P, PX, I, q, hg, hx⟩ => tE.bnd I q hx fun d k u S' H' p g I' hx' r => by
    obtain ⟨b, h1, h2⟩ := r.tru p
    refine ⟨b, h1, ?_⟩
    cases b with
    | true => exact iteT (hg d k u S' H' h2 g I' r)
    | false => exact iteF ⟨_, ρ, k, P, PX, I', h2, hg.grow g, hx'⟩
theorem e_not {a : Expr} {pos : Pos} {ga : Env → W D} (ha : E G X Wx a ga) : E G X Wx (.UnaryOp .Not a pos) (fun ρ => bnd (ga ρ) fun x => bnd (tru x) fun k => ret (.bl (!k))) :=
  weakE (pe_notT ha) fun σ H Q ⟨c, ρ, n, P, PX, I, q, hg, hx⟩ => tE.bnd I q hx fun d k u S' H' p g I' hx' r => by
    obtain ⟨b, h1, h2⟩ := r.tru p
    exact ⟨b, h1, hg (.bl (!b)) k _ S' H' h2 g I' rfl⟩
theorem e_if {t a b : Expr} {pos : Pos} {gt : Env → W Bool} {ga gb : Env → W D} (ht : T G X Wx t gt) (ha : E G X Wx a ga) (hb : E G X Wx b gb) :
    E G X Wx (.IfExp t a b pos) (fun ρ => bnd (gt ρ) fun x => if x = true then ga ρ else gb ρ) :=
  weakE (pe_ifExp ht ha hb) fun σ H Q ⟨c, ρ, n, P, PX, I, q, hg, hx⟩ => tT.bnd I q hx fun b k S' H' p g I' hx' => by
    cases b with
    | true => exact iteT ⟨_, ρ, k, P, PX, I', p, hg.grow g, hx'⟩
    | false => exact iteF ⟨_, ρ, k, P, PX, I', p, hg.grow g, hx'⟩

/-! ### arguments, displays -/
theorem a_nil : A G X Wx [] (fun _ => ret []) := weakA pa_nil fun σ H Q ⟨c, ρ, n, P, PX, I, q, hg, hx⟩ => hg [] n [] c.S H q .refl I rfl
theorem a_cons {e : Expr} {es : List Expr} {g : Env → W D} {gs : Env → W (List D)} (h : E G X Wx e g) (hs : A G X Wx es gs) (hp : starEach (e :: es) X.env = (false, eval e X.env) :: starEach es X.env := by rfl) :
    A G X Wx (e :: es) (fun ρ => bnd (g ρ) fun x => bnd (gs ρ) fun xs => ret (x :: xs)) :=
  weakA (pa_cons h hs hp) fun σ H Q ⟨c, ρ, n, P, PX, I, q, hg, hx⟩ => tE.bnd I q hx fun d k u S' H' p g I' hx' r => tAr.bnd I' p hx' fun ds k2 us S2 H2 p2 g2 I2 hx2 r2 =>
    hg (d :: ds) k2 (u :: us) S2 H2 p2 (g.trans g2) I2 ⟨u, us, rfl, Rep.grow g2 _ _ r, r2⟩
def few (xs : List D) (m : W α) : W α := grd (xs.length ≤ sizeLine) m
theorem e_tup {es : List Expr} {x1 : Nat} {pos : Pos} {gs : Env → W (List D)} (h : A G X Wx es gs) : E G X Wx (.Tuple es x1 pos) (fun ρ => bnd (gs ρ) fun xs => few xs (ret (.tup xs))) :=
  weakE (pe_tupZ h) fun σ H Q ⟨c, ρ, n, P, PX, I, q, hg, hx⟩ => tAr.bnd I q hx fun ds k us S' H' ⟨z, p⟩ g I' hx' r => ⟨by rw [r.len]; exact z, fun a o ha hd =>
    (hg.grow g).new p I' ha fun g2 => ⟨a, us, rfl, .inl ⟨.inr rfl, o, upd_same, hd⟩, z, Reps.grow g2 _ _ r⟩⟩
theorem o_lst {es : List Expr} {pos : Pos} {gs : Env → W (List D)} (h : A G X Wx es gs) : EO G X Wx (.List es pos) (fun ρ => bnd (gs ρ) fun xs => few xs (ret xs)) :=
  weakE (pe_lst h) fun σ H Q ⟨c, ρ, n, P, PX, I, q, hg, hx⟩ => tAr.bnd I q hx fun ds k us S' H' ⟨z, p⟩ g I' hx' r => ⟨by rw [r.len]; exact z, fun a ha =>
    (hg.grow g).new p I' ha z r⟩

/-! ### subscripts, slices -/
theorem atI_len {α β : Type} {xs : List α} {ys : List β} {i : Int} {y : β} (e : xs.length = ys.length) (h : atI ys i = some y) : ∃ j : Nat, ys[j]? = some y ∧ ∀ x : α, xs[j]? = some x → atI xs i = some x := by
  unfold atI at *
  cases q : ixN ys.length i with
  | none => rw [q] at h; cases h
  | some j =>
    rw [q] at h
    exact ⟨j, h, fun x hx => by rw [e, q]; exact hx⟩
theorem v2_ix : V2 G X Wx ixD (rIx X.K) := by
  intro c σ ρ H n P PX d e v w Q I rd re q hg hx
  cases e with
  | int i =>
    cases re
    cases d with
    | lst xs =>
      obtain ⟨a, vs, rfl, r1, _, q1⟩ := rd
      have q : (match atI xs i with | some x => ret x | none => stuck : W D) n P PX := q
      cases hx : atI xs i with
      | none => rw [hx] at q; exact q.elim
      | some x =>
        rw [hx] at q
        obtain ⟨j, e1, e2⟩ := atI_len q1.len hx
        obtain ⟨u, h1, h2⟩ := Reps.at q1 e1
        exact .inl ⟨a, vs, _, u, rfl, rfl, r1.sq, e2 u h1, hg.at q I h2⟩
    | tup xs =>
      obtain ⟨a, vs, rfl, r1, _, q1⟩ := rd
      have q : (match atI xs i with | some x => ret x | none => stuck : W D) n P PX := q
      cases hx : atI xs i with
      | none => rw [hx] at q; exact q.elim
      | some x =>
        rw [hx] at q
        obtain ⟨j, e1, e2⟩ := atI_len q1.len hx
        obtain ⟨u, h1, h2⟩ := Reps.at q1 e1
        exact .inr (.inl ⟨a, vs, _, u, rfl, rfl, r1.sq, e2 u h1, hg.at q I h2⟩)
    | str z =>
      obtain ⟨rfl, hz⟩ := rd
      have q : (match atI z.cps.toList i with | some k => ret (.str ⟨#[k]⟩) | none => stuck : W D) n P PX := q
      cases hx : atI z.cps.toList i with
      | none => rw [hx] at q; exact q.elim
      | some k =>
        rw [hx] at q
        exact .inr (.inr ⟨_, _, k, rfl, rfl, hz, hx, hg.at (d := .str ⟨#[k]⟩) q I ⟨rfl, by rw [sizeLine_eq]; show 1 ≤ 16777216; decide⟩⟩)
    | _ => exact q.elim
  | _ => cases d <;> exact q.elim
theorem e_ix {a b : Expr} {pos : Pos} {ga gb : Env → W D} (ha : E G X Wx a ga) (hb : E G X Wx b gb) (hs : PlainIx b := by intro _ _; rfl) : E G X Wx (.Subscript a b pos) (fun ρ => bnd (ga ρ) fun x => bnd (gb ρ) fun y => ixD x y) :=
  two_parts v2_ix ha hb (pe_ix ix_seq ha hb hs)
/-- a part of a slice -/
def PP (G : PenK) (X : Cx) (Wx : WX) (e : Option Expr) (g : Env → W (Option Int)) : Prop :=
  ∃ t, PO X e t ∧ ∀ c ρ n P PX σ H Q, SI G X.K c σ H ρ n → g ρ n P PX → OKx G X Wx c σ ρ H PX → (∀ o k S' H', P o k → Grow c.S S' H H' → SI G X.K (c.to S') σ H' ρ k → Q o H') → t σ H Q
theorem p_none : PP G X Wx none (fun _ => ret none) := ⟨_, po_none, fun c ρ n P PX σ H Q I q hx hg => hg none n c.S H q .refl I⟩
def intO : D → W (Option Int)
  | .int i => ret (some i)
  | _ => stuck
theorem p_some {e : Expr} {g : Env → W D} (h : E G X Wx e g) : PP G X Wx (some e) (fun ρ => bnd (g ρ) intO) :=
  ⟨_, po_some h, fun c ρ n P PX σ H Q I q hx hg => tE.bnd I q hx fun d k u S' H' p g I' hx' r => by
    cases d with
    | int i => cases r; exact ⟨i, rfl, hg (some i) k S' H' p g I'⟩
    | _ => exact p.elim⟩
def slD (d : D) (lo hi : Option Int) : W D := match d with
  | .tup xs => ret (.tup (cutD xs lo hi))
  | .str z => ret (.str (cutS z lo hi))
  | .lst xs => ret (.lst (cutD xs lo hi))
  | _ => stuck
theorem Reps.cut {K : PySem.W.Frag} {S : Addr → Prop} {H : Hp} {xs : List D} {vs : List V} {lo hi : Option Int} (r : Reps K S H xs vs) : Reps K S H (cutD xs lo hi) (cutV vs lo hi) := by
  unfold cutD cutV
  rw [r.len]
  exact Reps.take _ (Reps.drop _ r)
theorem cutD_len {α : Type} (xs : List α) (lo hi : Option Int) : (cutD xs lo hi).length ≤ xs.length := by
  unfold cutD
  rw [List.length_take, List.length_drop]
  omega
theorem cutD_all {α : Type} {xs : List α} {lo hi : Option Int} (h : HT.sIx xs.length 0 lo = 0 ∧ HT.sIx xs.length xs.length hi = xs.length) : cutD xs lo hi = xs := by
  unfold cutD
  rw [h.1, h.2]
  exact List.take_length
theorem e_sl {e : Expr} {lo hi : Option Expr} {p2 pos : Pos} {g : Env → W D} {gl gh : Env → W (Option Int)} (h : E G X Wx e g) (hl : PP G X Wx lo gl) (hh : PP G X Wx hi gh) :
    E G X Wx (.Subscript e (.Slice lo hi none p2) pos) (fun ρ => bnd (g ρ) fun x => bnd (gl ρ) fun i => bnd (gh ρ) fun j => slD x i j) := by
  obtain ⟨tl, hl1, hl2⟩ := hl
  obtain ⟨th, hh1, hh2⟩ := hh
  refine weakE (pe_slice (sl_tupZ.or (sl_str.or sl_list)) h hl1 hh1) fun σ H Q ⟨c, ρ, n, P, PX, I, q, hg, hx⟩ => tE.bnd I q hx fun d k u S' H' p g I' hx' r =>
    hl2 _ ρ k (fun i k => bnd (gh ρ) (fun j => slD d i j) k P PX) PX σ H' _ I' p hx' fun i k2 S2 H2 p2 g2 I2 => hh2 _ ρ k2 (fun j k => slD d i j k P PX) PX σ H2 _ I2 p2 (hx'.grow g2) fun j k3 S3 H3 p3 g3 I3 => ?_
  have r3 := Rep.grow (g2.trans g3) _ _ r
  have hg3 := hg.grow (g.trans (g2.trans g3))
  cases d with
  | tup xs =>
    obtain ⟨a, vs, rfl, r1, z, q1⟩ := id r3
    refine .inl ⟨a, vs, rfl, r1.sq, fun hw => ?_, fun _ b o hb hd => hg3.new p3 I3 hb fun g4 => ⟨b, _, rfl, .inl ⟨.inr rfl, o, upd_same, hd⟩, Nat.le_trans (cutD_len _ _ _) z, Reps.grow g4 _ _ q1.cut⟩⟩
    rw [q1.len] at hw
    have p3' : P (.tup (cutD xs i j)) k3 := p3
    rw [cutD_all hw] at p3'
    exact hg3.at p3' I3 r3
  | str z =>
    obtain ⟨rfl, hz⟩ := r3
    exact .inr (.inl ⟨z, rfl, hz, hg3.at (d := .str (cutS z i j)) p3 I3 ⟨rfl, Nat.le_trans (cutS_length z i j) hz⟩⟩)
  | lst xs =>
    obtain ⟨a, vs, rfl, r1, z, q1⟩ := r3
    exact .inr (.inr ⟨a, vs, rfl, r1.sq, fun b hb => hg3.new p3 I3 hb fun g4 => ⟨b, _, rfl, ⟨.inr rfl, upd_same⟩, Nat.le_trans (cutD_len _ _ _) z, Reps.grow g4 _ _ q1.cut⟩⟩)
  | _ => exact p3.elim
/-! ### calls of built-ins -/
theorem e_callB {x : Str} {p pos : Pos} {id : String} {e : Expr} {es : List Expr} {r : List V → Hp → VK → Prop} {gs : Env → W (List D)} {h : List D → W D} (hm : X.mg x = none) (hv : bootBuiltins x = some (.builtin id)) (o : CallR X (.builtin id) r) (v : VA G X Wx h r) (ha : A G X Wx (e :: es) gs)
    (hg : Gl X x := by rfl) (hn : x ≠ "__name__" := by decide) (hdb : (x == ("__debug__" : Str)) = false := by decide) (he : starEach (e :: es) X.env = (false, eval e X.env) :: starEach es X.env := by rfl) (hpl : (backTo pos (starEach es X.env)).any (·.1) = false := by rfl) :
    E G X Wx (.Call (.Name x p) (e :: es) [] pos) (fun ρ => bnd (gs ρ) h) :=
  weakE (pe_callB o hg hm hv ha hn hdb he hpl) fun σ H Q ⟨c, ρ, n, P, PX, I, q, hg, hx⟩ => tAr.bnd I q hx fun ds k us S' H' p g I' hx' r => v _ σ ρ H' k P PX ds us Q I' r p (hg.grow g) hx'
theorem e_callT {x : Str} {p pos : Pos} {T : String} {e : Expr} {es : List Expr} {r : List V → Hp → VK → Prop} {gs : Env → W (List D)} {h : List D → W D} (hm : X.mg x = none) (hv : bootBuiltins x = some (.type T)) (o : CallR X (.type T) r) (v : VA G X Wx h r) (ha : A G X Wx (e :: es) gs)
    (hg : Gl X x := by rfl) (hn : x ≠ "__name__" := by decide) (hdb : (x == ("__debug__" : Str)) = false := by decide) (he : starEach (e :: es) X.env = (false, eval e X.env) :: starEach es X.env := by rfl) (hpl : (backTo pos (starEach es X.env)).any (·.1) = false := by rfl) :
    E G X Wx (.Call (.Name x p) (e :: es) [] pos) (fun ρ => bnd (gs ρ) h) :=
  weakE (pe_callTy o hg hm hv ha hn hdb he hpl) fun σ H Q ⟨c, ρ, n, P, PX, I, q, hg, hx⟩ => tAr.bnd I q hx fun ds k us S' H' p g I' hx' r => v _ σ ρ H' k P PX ds us Q I' r p (hg.grow g) hx'
theorem Reps.one_inv {K : PySem.W.Frag} {S : Addr → Prop} {H : Hp} {x : D} {vs : List V} (r : Reps K S H [x] vs) : ∃ v, vs = [v] ∧ Rep K S H x v := by
  obtain ⟨v, ws, rfl, r, e⟩ := r
  have e : ws = [] := e
  rw [e]
  exact ⟨v, rfl, r⟩
theorem Reps.two_inv {K : PySem.W.Frag} {S : Addr → Prop} {H : Hp} {x y : D} {vs : List V} (r : Reps K S H [x, y] vs) : ∃ v w, vs = [v, w] ∧ Rep K S H x v ∧ Rep K S H y w := by
  obtain ⟨v, ws, rfl, r, q⟩ := r
  obtain ⟨w, rfl, r2⟩ := Reps.one_inv q
  exact ⟨v, w, rfl, r, r2⟩
theorem va_one {f : D → W D} {r : V → Hp → VK → Prop} {r' : List V → Hp → VK → Prop} (v : V1 G X Wx f r) (h : ∀ x H Q, r x H Q → r' [x] H Q) : VA G X Wx (one f) r' := by
  intro c σ ρ H n P PX ds vs Q I rs q hg hx
  cases ds with
  | nil => exact q.elim
  | cons d ds =>
    cases ds with
    | nil =>
      obtain ⟨u, rfl, r⟩ := rs.one_inv
      exact h u H Q (v c σ ρ H n P PX d u Q I r q hg hx)
    | cons _ _ => exact q.elim
theorem RepK.len {K : PySem.W.Frag} {S : Addr → Prop} {H : Hp} : ∀ {xs : List (Key × D)} {vs : List (Key × V)}, RepK K S H xs vs → vs.length = xs.length
  | [], _, h => by
    have e : _ = [] := h
    rw [e]
    rfl
  | (k, x) :: xs, _, h => by
    obtain ⟨v, ws, rfl, _, q⟩ := h
    show ws.length + 1 = xs.length + 1
    rw [RepK.len q]
theorem call_lenR : CallR X (.builtin "len") (fun xs H Q => ∃ a kvs, xs = [V.ref a] ∧ Rd H a (.dK kvs) ∧ Q (.int kvs.length) H) := by
  intro pins s σ H xs us Q I r q
  obtain ⟨a, kvs, ex, e, q⟩ := q
  subst ex
  obtain ⟨u, eu, rx⟩ := vals1 r
  subst eu
  cases rx
  exact d_len I e fun t s' I' => ⟨.int kvs.length, H, I', ⟨t, rfl⟩, q⟩
theorem e_len {p pos : Pos} {e : Expr} {g : Env → W D} (hm : X.mg "len" = none) (h : E G X Wx e g) (hg : Gl X "len" := by rfl) (he : starEach [e] X.env = (false, eval e X.env) :: starEach [] X.env := by rfl) :
    E G X Wx (.Call (.Name "len" p) [e] [] pos) (fun ρ => bnd (bnd (g ρ) fun x => bnd (ret []) fun xs => ret (x :: xs)) (one lenD)) :=
  e_callB hm PySem.boot_len (call_len.or call_lenR) (va_one (r := fun x H Q => (∃ n : Nat, LenV X.K x H n ∧ Q (.int n) H) ∨ ∃ d kvs, x = .ref d ∧ Rd H d (.dK kvs) ∧ Q (.int kvs.length) H) (by
    intro c σ ρ H n P PX d v Q I r q hg hx
    cases d with
    | lst xs => obtain ⟨a, vs, rfl, r1, _, q1⟩ := r; exact .inl ⟨xs.length, .inl ⟨vs, r1.sq, q1.len.symm⟩, hg.at (d := .int xs.length) q I rfl⟩
    | tup xs => obtain ⟨a, vs, rfl, r1, _, q1⟩ := r; exact .inl ⟨xs.length, .inr ⟨vs, r1.sq, q1.len.symm⟩, hg.at (d := .int xs.length) q I rfl⟩
    | str x => obtain ⟨rfl, z⟩ := r; exact .inl ⟨x.length, ⟨z, rfl⟩, hg.at (d := .int x.length) q I rfl⟩
    | dic kvs => obtain ⟨a, kws, rfl, r1, q1⟩ := r; exact .inr ⟨a, kws, rfl, r1.2, by rw [q1.len]; exact hg.at (d := .int kvs.length) q I rfl⟩
    | _ => exact q.elim) fun x H Q h => h.elim (fun ⟨n, h1, h2⟩ => .inl ⟨x, n, rfl, h1, h2⟩) fun ⟨d, kvs, h1, h2, h3⟩ => .inr ⟨d, kvs, by rw [h1], h2, h3⟩) (a_cons h a_nil he) hg (by decide) (by decide) he (by rfl)
end
end PL

/-! The layer: statements, targets, walks, loops, comprehensions. -/
namespace PL
open PySem PySem.Spec L2

/-! ### targets -/
inductive Tg where
  | nm (i : Nat) | tp (ts : List Tg)
mutual
def setT : Tg → D → Env → W Env
  | .nm i, x, ρ => ret (ρ.set i (.d x))
  | .tp ts, .tup xs, ρ => grd (xs.length = ts.length) (setTs ts xs ρ)
  | .tp ts, .lst xs, ρ => grd (xs.length = ts.length) (setTs ts xs ρ)
  | .tp _, _, _ => stuck
def setTs : List Tg → List D → Env → W Env
  | [], [], ρ => ret ρ
  | t :: ts, x :: xs, ρ => bnd (setT t x ρ) fun ρ' => setTs ts xs ρ'
  | _, _, _ => stuck
end
mutual
def Tg.ix : Tg → List Nat
  | .nm i => [i]
  | .tp ts => Tg.ixs ts
def Tg.ixs : List Tg → List Nat
  | [] => []
  | t :: ts => t.ix ++ Tg.ixs ts
end
/-- only the slots vs may differ -/
def But (vs : List Nat) (σ σ' : L2.St) : Prop := σ'.length = σ.length ∧ ∀ i, i ∉ vs → σ'[i]? = σ[i]?
def ButE (vs : List Nat) (ρ ρ' : Env) : Prop := ρ'.length = ρ.length ∧ ∀ i, i ∉ vs → ρ'[i]? = ρ[i]?

section
variable {G : PenK} {X : Cx} {Wx : WX}

mutual
def gT (K : PySem.W.Frag) : Tg → TG
  | .nm i => gName i
  | .tp ts => fun v σ H Q => gTup K ts.length (gTs K ts) v σ H Q ∨ gUnl K ts.length (gTs K ts) v σ H Q
def gTs (K : PySem.W.Frag) : List Tg → TGs
  | [] => gNil
  | t :: ts => gCons (gT K t) (gTs K ts)
end
def PTg (X : Cx) (tg : Expr) (t : Tg) : Prop := PG X tg (gT X.K t)
def PTgs (X : Cx) (tgs : List Expr) (ts : List Tg) : Prop := PGs X tgs (gTs X.K ts)
theorem But.set {σ : L2.St} {i : Nat} {o : Option V} : But [i] σ (σ.set i o) := ⟨by rw [List.length_set], fun j h => by rw [List.getElem?_set_ne (fun e => h (by rw [e]; exact List.mem_singleton.mpr rfl))]⟩
theorem ButE.set {ρ : Env} {i : Nat} {o : SV} : ButE [i] ρ (ρ.set i o) := ⟨by rw [List.length_set], fun j h => by rw [List.getElem?_set_ne (fun e => h (by rw [e]; exact List.mem_singleton.mpr rfl))]⟩
theorem But.app {σ σ1 σ2 : L2.St} {vs ws : List Nat} (a : But vs σ σ1) (b : But ws σ1 σ2) : But (vs ++ ws) σ σ2 :=
  ⟨b.1.trans a.1, fun i h => (b.2 i fun z => h (List.mem_append_right _ z)).trans (a.2 i fun z => h (List.mem_append_left _ z))⟩
theorem ButE.app {σ σ1 σ2 : Env} {vs ws : List Nat} (a : ButE vs σ σ1) (b : ButE ws σ1 σ2) : ButE (vs ++ ws) σ σ2 :=
  ⟨b.1.trans a.1, fun i h => (b.2 i fun z => h (List.mem_append_right _ z)).trans (a.2 i fun z => h (List.mem_append_left _ z))⟩
mutual
theorem gT_ok {K : PySem.W.Frag} : ∀ (t : Tg) {c : C} {σ : L2.St} {ρ : Env} {H : Hp} {n : Nt} {P : Env → Nt → Prop} {PX : Exc → Nt → Prop} {d : D} {v : V} {Q : L2.St → Hp → Prop}, SI G K c σ H ρ n → Rep K c.S H d v → setT t d ρ n P PX →
    (∀ ρ' k σ', P ρ' k → SI G K c σ' H ρ' k → But t.ix σ σ' → ButE t.ix ρ ρ' → Q σ' H) → gT K t v σ H Q
  | .nm i, c, σ, ρ, H, n, P, PX, d, v, Q, I, r, q, h => h _ n _ q (I.set r) But.set ButE.set
  | .tp ts, c, σ, ρ, H, n, P, PX, d, v, Q, I, r, q, h => by
    cases d with
    | tup xs =>
      obtain ⟨a, vs, rfl, r1, z, r2⟩ := r
      exact .inl ⟨a, vs, rfl, r1.sq, r2.len.trans q.1, gTs_ok ts I r2 q.2 h⟩
    | lst xs =>
      obtain ⟨a, vs, rfl, r1, z, r2⟩ := r
      exact .inr ⟨a, vs, rfl, r1.sq, r2.len.trans q.1, gTs_ok ts I r2 q.2 h⟩
    | _ => exact q.elim
theorem gTs_ok {K : PySem.W.Frag} : ∀ (ts : List Tg) {c : C} {σ : L2.St} {ρ : Env} {H : Hp} {n : Nt} {P : Env → Nt → Prop} {PX : Exc → Nt → Prop} {ds : List D} {vs : List V} {Q : L2.St → Hp → Prop}, SI G K c σ H ρ n → Reps K c.S H ds vs → setTs ts ds ρ n P PX →
    (∀ ρ' k σ', P ρ' k → SI G K c σ' H ρ' k → But (Tg.ixs ts) σ σ' → ButE (Tg.ixs ts) ρ ρ' → Q σ' H) → gTs K ts vs σ H Q
  | [], c, σ, ρ, H, n, P, PX, ds, vs, Q, I, r, q, h => by
    cases ds with
    | nil =>
      have e : vs = [] := r
      exact ⟨e, h ρ n σ q I ⟨rfl, fun _ _ => rfl⟩ ⟨rfl, fun _ _ => rfl⟩⟩
    | cons _ _ => exact q.elim
  | t :: ts, c, σ, ρ, H, n, P, PX, ds, vs, Q, I, r, q, h => by
    cases ds with
    | nil => exact q.elim
    | cons d ds =>
      obtain ⟨v, ws, rfl, r1, r2⟩ := r
      exact ⟨v, ws, rfl, gT_ok t I r1 q fun ρ1 k1 σ1 q1 I1 b1 e1 => gTs_ok ts I1 r2 q1 fun ρ2 k2 σ2 q2 I2 b2 e2 => h ρ2 k2 σ2 q2 I2 (b1.app b2) (e1.app e2)⟩
end
theorem g_nm {x : Str} {pos : Pos} (i : Nat) (hN : X.N.Nodup) (hi : X.N[i]? = some x := by rfl) (hx : Loc X.env.scope x := by first | exact Or.inl rfl | exact Or.inr rfl) (hf : X.fn x = true ∨ X.env.scope.names.lookup x = some .local := by first | exact .inl rfl | exact .inr rfl) : PTg X (.Name x pos) (.nm i) := pg_name hN hi hx hf
theorem gs_nil : PTgs X [] [] := pgs_nil
theorem gs_cons {tg : Expr} {tgs : List Expr} {t : Tg} {ts : List Tg} (h1 : PTg X tg t) (h2 : PTgs X tgs ts)
    (ht : (assignEach (tg :: tgs) X.env).map (·.2) = assign tg X.env :: (assignEach tgs X.env).map (·.2) := by rfl) : PTgs X (tg :: tgs) (t :: ts) := pgs_cons h1 h2 ht
theorem g_tp {es : List Expr} {k : Nat} {pos : Pos} {ts : List Tg} (hc : X.calm = true) (h : PTgs X es ts) (hn : (assignEach es X.env).length = ts.length := by rfl) (hst : (assignEach es X.env).findIdx? (·.1) = none := by rfl) :
    PTg X (.Tuple es k pos) (.tp ts) :=
  ⟨fun pins sh σ H v u Q I r q => q.elim ((pg_tup hc h hn hst).run pins sh σ H v u Q I r) ((pg_unl hc h hn hst).run pins sh σ H v u Q I r)⟩

/-! ### statements -/
theorem SI.bk {c : C} {σ : L2.St} {ρ : Env} {H : Hp} {n : Nt} (I : SI G X.K c σ H ρ n) : SI G X.K (c.to c.S) σ H ρ n := I
theorem ss_nil : Ss G X Wx [] (fun ρ => ret (.nx ρ)) := weakSs pss_nil fun Dn σ H ⟨c, ρ, n, P, PX, I, q, hg, hx⟩ => hg.1 ρ n σ c.S H q .refl I
def andThen (m : W Out) (k : Env → W Out) : W Out := bnd m fun o => match o with
  | .nx ρ => k ρ
  | .rt d ρ => ret (.rt d ρ)
  | .bk ρ => ret (.bk ρ)
  | .ct ρ => ret (.ct ρ)
theorem GlS.seq {c : C} {H : Hp} {P : Out → Nt → Prop} {PX : Exc → Nt → Prop} {Dn : Ends} {f : Env → W Out} {N : L2.St → Hp → Prop} (hg : GlS G X c H P Dn)
    (hN : ∀ ρ' k σ' S' H', f ρ' k P PX → Grow c.S S' H H' → SI G X.K (c.to S') σ' H' ρ' k → N σ' H') :
    GlS G X c H (fun o k => (match o with | .nx ρ => f ρ | .rt d ρ => ret (.rt d ρ) | .bk ρ => ret (.bk ρ) | .ct ρ => ret (.ct ρ) : W Out) k P PX) { Dn with nx := N } :=
  ⟨fun ρ' k σ' S' H' p g I => hN ρ' k σ' S' H' p g I, fun d k v σ' ρ' S' H' p g I r => hg.2.1 d k v σ' ρ' S' H' p g I r, fun ρ' k σ' S' H' p g I => hg.2.2.1 ρ' k σ' S' H' p g I, fun ρ' k σ' S' H' p g I => hg.2.2.2 ρ' k σ' S' H' p g I⟩
theorem ss_one {s : Stmt} {g : Env → W Out} (h : St1 G X Wx s g) : Ss G X Wx [s] g := pss_one h
/-- slot i is given up -/
def frz (i : Nat) (ρ : Env) : Env := match ρ[i]? with
  | some s => ρ.set i s.bor
  | none => ρ
theorem s_asg {tg e : Expr} {pos : Pos} {t : Tg} {g : Env → W D} (h : E G X Wx e g) (ht : PTg X tg t) (h1 : (assignEach [tg] X.env).map (·.2) = [assign tg X.env] := by rfl) (hs : swapsWithSole [tg] e pos.line X.env = pure false := by rfl) (hw : swappedStores [tg] e X.env = pure none := by rfl) :
    St1 G X Wx (.Assign [tg] e pos) (fun ρ => bnd (g ρ) fun d => bnd (setT t d ρ) fun ρ' => ret (.nx ρ')) := by
  exact weakS (ps_asg h ht hs hw h1) fun Dn σ H ⟨c, ρ, n, P, PX, I, q, hg, hx⟩ => tE.bnd I q hx.x fun d k v S' H' p g I' hx' r => gT_ok t (P := fun ρ' k => P (.nx ρ') k) I' r p fun ρ' k2 σ' p2 I2 _ _ => hg.1 ρ' k2 σ' S' H' p2 g I2
/-- name = a new list of one's own -/
theorem s_own {x : Str} {px pos : Pos} {e : Expr} {g : Env → W (List D)} (i : Nat) (h : EO G X Wx e g) (hN : X.N.Nodup) (hi : X.N[i]? = some x := by rfl) (hx : Loc X.env.scope x := by first | exact Or.inl rfl | exact Or.inr rfl) (hf : X.fn x = true ∨ X.env.scope.names.lookup x = some .local := by first | exact .inl rfl | exact .inr rfl)
    (hs : swapsWithSole [.Name x px] e pos.line X.env = pure false := by rfl) (hw : swappedStores [.Name x px] e X.env = pure none := by rfl) : St1 G X Wx (.Assign [.Name x px] e pos) (fun ρ => bnd (g ρ) fun xs => ret (.nx (ρ.set i (.own xs)))) :=
  weakS (ps_asg h (pg_name hN hi hx hf) hs hw) fun Dn σ H ⟨c, ρ, n, P, PX, I, q, hg, hx⟩ => tO.bnd I q hx.x fun xs k a vs S' H' p g I' hx' e z r f => hg.1 _ k _ S' H' p g (I'.setO e z r f.1 fun j sv _ h1 h2 => f.2 j sv h1 h2)
theorem s_if {t : Expr} {a b : List Stmt} {pos : Pos} {gt : Env → W Bool} {ga gb : Env → W Out} (ht : T G X Wx t gt) (ha : Ss G X Wx a ga) (hb : Ss G X Wx b gb) :
    St1 G X Wx (.If t a b pos) (fun ρ => bnd (gt (bor ρ)) fun x => if x = true then ga ρ else gb ρ) :=
  weakS (ps_if ht ha hb) fun Dn σ H ⟨c, ρ, n, P, PX, I, q, hg, hx⟩ => by
    obtain ⟨I2, g2⟩ := I.lend
    refine tT.bnd I2 q (hx.grow g2).x fun b k S' H' p g I' hx' => ?_
    obtain ⟨I3, g3⟩ := I.back g I'
    cases b with
    | true => exact iteT ⟨_, ρ, k, P, PX, I3, p, hg.grow g3, hx.grow g3⟩
    | false => exact iteF ⟨_, ρ, k, P, PX, I3, p, hg.grow g3, hx.grow g3⟩
/-- a list of one's own is changed -/
theorem SI.mut {c : C} {σ : L2.St} {ρ : Env} {H : Hp} {n : Nt} {i : Nat} {xs ys : List D} {a : Addr} {vs : List V} (I : SI G X.K c σ H ρ n) (e : ρ[i]? = some (.own xs)) (es : slot σ i = some (.ref a)) (z : ys.length ≤ sizeLine) (r : Reps X.K c.S H ys vs) :
    SI G X.K c σ (upd H a (.lst vs)) (ρ.set i (.own ys)) n ∧ Grow c.S c.S H (upd H a (.lst vs)) := by
  obtain ⟨y1, y2, y3⟩ := I.own i _ a e rfl es
  have hl : i < ρ.length := (List.getElem?_eq_some_iff.mp e).1
  have g : Grow c.S c.S H (upd H a (.lst vs)) := ⟨fun _ q => q, fun b q => upd_ne fun z => y1 (z ▸ q)⟩
  have key : ∀ j sv, (ρ.set i (.own ys))[j]? = some sv → (j = i ∧ sv = .own ys) ∨ (i ≠ j ∧ ρ[j]? = some sv) := fun j sv e => by
    by_cases h : i = j
    · subst h
      rw [List.getElem?_set_self hl] at e
      exact .inl ⟨rfl, (Option.some.inj e).symm⟩
    · rw [List.getElem?_set_ne h] at e
      exact .inr ⟨h, e⟩
  refine ⟨⟨by rw [List.length_set, I.len], fun j sv e2 => ?_, fun j sv b e2 ho es2 => ?_, fun j k sv sv' b hn e1 e2 ho ho' es1 es2 => ?_, fun b q => ?_, fun b o e2 hn => ?_, fun p e2 => ?_, I.no, fun q e => ⟨(I.tab q e).1, (I.tab q e).2.grow g (upd_ne fun z => (I.tabN e).2.1 (z ▸ y2))⟩, fun b nd e => ⟨(I.mu b nd e).1.grow g (upd_ne fun z => (by rw [z, y3] at e; cases e)), (I.mu b nd e).2⟩, I.mu0, I.mz⟩, g⟩
  · rcases key j sv e2 with ⟨rfl, rfl⟩ | ⟨hn, h⟩
    · exact ⟨a, vs, es, upd_same, z, Reps.grow g _ _ r⟩
    · exact (I.slots j sv h).grow g fun b eb ho => upd_ne fun q => I.apart i j _ sv a hn e h rfl ho es (q ▸ eb)
  · rcases key j sv e2 with ⟨rfl, rfl⟩ | ⟨hn, h⟩
    · exact I.own j _ b e rfl es2
    · exact I.own j sv b h ho es2
  · rcases key j sv e1 with ⟨rfl, rfl⟩ | ⟨hn1, h1⟩
    · rcases key k sv' e2 with ⟨rfl, rfl⟩ | ⟨hn2, h2⟩
      · exact hn rfl
      · exact I.apart j k _ sv' b hn e h2 rfl ho' es1 es2
    · rcases key k sv' e2 with ⟨rfl, rfl⟩ | ⟨hn2, h2⟩
      · exact I.apart j k sv _ b hn h1 e ho rfl es1 es2
      · exact I.apart j k sv sv' b hn h1 h2 ho ho' es1 es2
  · rw [g.eq b q]; exact I.dom b q
  · have q := I.fr b o e2 hn
    rw [upd_ne fun z => by rw [z, y2] at e2; cases e2]
    exact q
  · obtain ⟨h1, h2, h3, h4, h5⟩ := I.pen p e2
    exact ⟨G.dep h1 (upd_ne fun z => h4 (z ▸ y2)) (upd_ne fun z => h5 (z ▸ y2)), h2, h3, h4, h5⟩
def ownAt (ρ : Env) (i : Nat) (f : List D → W Out) : W Out := match ρ[i]? with
  | some (.own xs) => f xs
  | _ => stuck
theorem ownAt_inv {ρ : Env} {i : Nat} {n : Nt} {f : List D → W Out} {P : Out → Nt → Prop} {PX : Exc → Nt → Prop} (h : ownAt ρ i f n P PX) : ∃ xs, ρ[i]? = some (.own xs) ∧ f xs n P PX := by
  unfold ownAt at h
  cases e : ρ[i]? with
  | none => rw [e] at h; exact h.elim
  | some sv =>
    rw [e] at h
    cases sv with
    | own xs => exact ⟨xs, rfl, h⟩
    | _ => exact h.elim
/-- xs.append(e) -/
theorem s_app {x : Str} {px pa pc pos : Pos} {e : Expr} {g : Env → W D} (i : Nat) (h : E G X Wx e g) (hN : X.N[i]? = some x := by rfl) (hv : Vis X.env.scope x := by first | exact Or.inl rfl | exact Or.inr (Or.inl rfl) | exact Or.inr (Or.inr rfl)) (hd : (x == ("__debug__" : Str)) = false := by decide)
    (hcd : (x == ("__classdict__" : Str)) = false := by decide) (hst : starEach [e] X.env = (false, eval e X.env) :: starEach [] X.env := by rfl)
    (hbase : attributeBase (.Name x px) "append" X.env (eval (.Name x px) X.env) = eval (.Name x px) X.env := by rfl)
    (hfew : ((backTo pc (starEach [e] X.env)).all (fun x => !x.1) && (backToKw pc (keywordEach [] X.env)).all (fun x => x.1.isSome)
      && decide (([e] : List Expr).length + ([] : List Keyword).length + (if ([] : List Keyword).isEmpty then 0 else 1) < 30)) = true := by rfl)
    (hline : (pa.endLine == pc.line) = true := by rfl) (hplain : (backTo pc (starEach [] X.env)).any (·.1) = false := by rfl) (hs : swapsWith (.Call (.Attribute (.Name x px) "append" pa) [e] [] pc) none pos.line X.env = pure false := by rfl) :
    St1 G X Wx (.Expr (.Call (.Attribute (.Name x px) "append" pa) [e] [] pc) pos) (fun ρ => ownAt ρ i fun xs => bnd (g ρ) fun d => grd (xs.length < sizeLine) (ret (.nx (ρ.set i (.own (xs ++ [d])))))) :=
  weakS (ps_expr (pe_bm PySem.F.plainAttrs_list PySem.F.slot_list_append PySem.F.type_list_append mt_append (pe_var hN hv hd hcd) (pa_cons h pa_nil hst) hbase hfew hline hst hplain) hs) fun Dn σ H ⟨c, ρ, n, P, PX, I, q, hg, hx⟩ => by
    obtain ⟨xs, e1, q⟩ := ownAt_inv q
    obtain ⟨a, vs, e2, e3, z, r⟩ := I.slots i _ e1
    refine ⟨.ref a, slot_some e2, .inl ⟨rfl, _, SqL.of e3⟩, tE.bnd I q hx.x fun d k v S' H' ⟨z2, p⟩ g I' hx' r' => ?_⟩
    obtain ⟨a', vs', e4, e5, z3, r2⟩ := I'.slots i _ e1
    rw [e2] at e4
    cases e4
    obtain ⟨I3, g3⟩ := I'.mut e1 e2 (ys := xs ++ [d]) (vs := vs' ++ [v]) (by rw [List.length_append]; exact z2) (Reps.app r2 (Reps.one r'))
    exact ⟨a, vs', v, rfl, rfl, e5, by rw [r2.len]; exact z2, hg.1 _ k σ _ _ p (g.trans g3) I3⟩
end
end PL

/-! The layer: walks, loops, comprehensions. -/
namespace PL
open PySem PySem.Spec L2
section
variable {G : PenK} {X : Cx} {Wx : WX}

/-- from S0, H0 on the walk J gives the items xs -/
def Walks (G : PenK) (K : PySem.W.Frag) (J : It) (S0 : Addr → Prop) (H0 : Hp) (xs : List D) : Prop :=
  ∀ (c : C) (ρ : Env) (σ : L2.St) (H : Hp) (n : Nt) (i : Nat), Grow S0 c.S H0 H → SI G K c σ H ρ n →
    (i < xs.length → J.go i H ∧ ∀ v H', J.yld i H v H' → ∃ S' x, Grow c.S S' H H' ∧ SI G K (c.to S') σ H' ρ n ∧ xs[i]? = some x ∧ Rep K S' H' x v) ∧ (xs.length ≤ i → J.stop i H)
def tI (G : PenK) (X : Cx) (Wx : WX) (g : Env → W (List D)) : TI := fun σ H R => ∃ c ρ n P PX, SI G X.K c σ H ρ n ∧ g ρ n P PX ∧
  (∀ xs k S' H' J, P xs k → Grow c.S S' H H' → SI G X.K (c.to S') σ H' ρ k → Walks G X.K J S' H' xs → R J H') ∧ OKx G X Wx c σ ρ H PX
def Wk (G : PenK) (X : Cx) (Wx : WX) (tg e : Expr) (g : Env → W (List D)) : Prop := PI X tg e (tI G X Wx g)
theorem weakI {tg e : Expr} {t t' : TI} (h : PI X tg e t) (f : ∀ σ H R, t' σ H R → t σ H R) : PI X tg e t' := ⟨fun pins s σ H R I q => h.run pins s σ H R I (f σ H R q)⟩

theorem walks_list {K : PySem.W.Frag} {S : Addr → Prop} {H : Hp} {a : Addr} {xs : List D} {vs : List V} (h : RdL S H a vs) (r : Reps K S H xs vs) : Walks G K (Itl K a) S H xs := fun c ρ σ H2 n i g I => by
  have h2 := h.grow g
  have r2 := Reps.grow g _ _ r
  refine ⟨fun hi => ?_, fun hi => ⟨vs, h2.sq, by rw [r2.len]; exact hi⟩⟩
  have hx : xs[i]? = some xs[i] := List.getElem?_eq_getElem hi
  obtain ⟨v, e1, e2⟩ := Reps.at r2 hx
  exact ⟨⟨vs, v, h2.sq, e1⟩, fun u H' ⟨e, y⟩ => ⟨c.S, xs[i], e ▸ .refl, e ▸ I, hx, by
    have := y vs h2.sq
    rw [e1] at this
    cases this
    rw [e]
    exact e2⟩⟩
theorem walks_tup {K : PySem.W.Frag} {S : Addr → Prop} {H : Hp} {a : Addr} {xs : List D} {vs : List V} (h : RdT K S H a vs) (r : Reps K S H xs vs) : Walks G K (Itt K a) S H xs := fun c ρ σ H2 n i g I => by
  have h2 := h.grow g
  have r2 := Reps.grow g _ _ r
  refine ⟨fun hi => ?_, fun hi => ⟨vs, h2.sq, by rw [r2.len]; exact hi⟩⟩
  have hx : xs[i]? = some xs[i] := List.getElem?_eq_getElem hi
  obtain ⟨v, e1, e2⟩ := Reps.at r2 hx
  exact ⟨⟨vs, v, h2.sq, e1⟩, fun u H' ⟨e, y⟩ => ⟨c.S, xs[i], e ▸ .refl, e ▸ I, hx, by
    have := y vs h2.sq
    rw [e1] at this
    cases this
    rw [e]
    exact e2⟩⟩
/-- a list or a tuple -/
theorem pi_seq {tg e : Expr} {te : TE} (he : PE X e te) : PI X tg e (fun σ H R => te σ H fun x H1 => ∃ a xs, x = .ref a ∧ ((SqL X.K H1 a xs ∧ R (Itl X.K a) H1) ∨ (SqT X.K H1 a xs ∧ R (Itt X.K a) H1))) :=
  ⟨fun pins s σ H R I h => thn (he.run pins s σ H _ I h) fun v s1 ⟨x, H1, I1, r1, a, xs, e, q⟩ => by
    subst e
    cases r1
    have fp : ∀ b ∈ [s1.heap.objs.size], FpOk X pins H1 b := fun b hb => by
      rw [List.mem_singleton.mp hb]
      exact I1.fpOk (Nat.le_refl _) (I1.hok.fresh (Nat.le_refl _))
    rcases q with ⟨h1, q⟩ | ⟨h1, q⟩
    · obtain ⟨its, _, p, _⟩ := I1.list h1
      exact PySem.wpAny_pyIter_list p.isList ⟨_, _, _, _, H1, rfl, I1.kept (t' := s1.toks) (fun b o e => Heap.get?_push_of_some _ e), turn_list a _, ⟨_, Heap.get?_push_size _ rfl, rfl, rfl⟩, fp, q⟩
    · obtain ⟨its, _, p, _⟩ := I1.tuple h1
      exact PySem.wpAny_pyIter_tuple (show s1.heap.IsTuple a its.toArray from p) ⟨_, _, _, _, H1, rfl, I1.kept (t' := s1.toks) (fun b o e => Heap.get?_push_of_some _ e), turn_tuple a _, ⟨_, Heap.get?_push_size _ rfl, rfl, rfl⟩, fp, q⟩⟩
theorem w_seq {tg e : Expr} {g : Env → W D} (h : E G X Wx e g) : Wk G X Wx tg e (fun ρ => bnd (g ρ) items) :=
  weakI (pi_seq h) fun σ H R ⟨c, ρ, n, P, PX, I, q, hg, hx⟩ => tE.bnd I q hx fun d k v S' H' p g I' hx' r => by
    cases d with
    | lst xs =>
      obtain ⟨a, vs, rfl, r1, z, q1⟩ := r
      exact ⟨a, vs, rfl, .inl ⟨r1.sq, hg xs k S' H' _ p g I' (walks_list r1 q1)⟩⟩
    | tup xs =>
      obtain ⟨a, vs, rfl, r1, z, q1⟩ := r
      exact ⟨a, vs, rfl, .inr ⟨r1.sq, hg xs k S' H' _ p g I' (walks_tup r1 q1)⟩⟩
    | _ => exact p.elim
/-- the ints lo, lo + 1, .. -/
def rng (lo : Int) (n : Nat) : List D := (List.range n).map fun i => .int (lo + (i : Nat))
def inR (i : Int) : Prop := -(2 ^ 62) ≤ i ∧ i < 2 ^ 62
def rng1 : D → W (List D)
  | .int j => grd (inR j) (ret (rng 0 j.toNat))
  | _ => stuck
theorem rng_len (lo : Int) (n : Nat) : (rng lo n).length = n := by unfold rng; rw [List.length_map, List.length_range]
theorem rng_get {lo : Int} {n i : Nat} (h : i < n) : (rng lo n)[i]? = some (.int (lo + (i : Nat))) := by
  unfold rng
  rw [List.getElem?_map, List.getElem?_range h]
  rfl
theorem walks_rng {K : PySem.W.Frag} {S : Addr → Prop} {H : Hp} {lo : Int} {n : Nat} : Walks G K (Itr lo n) S H (rng lo n) := fun c ρ σ H2 k i g I => by
  rw [rng_len]
  exact ⟨fun hi => ⟨hi, fun v H' ⟨e1, e2⟩ => ⟨c.S, _, e1 ▸ .refl, e1 ▸ I, rng_get hi, e2⟩⟩, fun hi => hi⟩
theorem w_rng1 {tg e : Expr} {p pos : Pos} {g : Env → W D} (hm : X.mg "range" = none) (h : E G X Wx e g) (hg : Gl X "range" := by rfl) (hs : starEach [e] X.env = [(false, eval e X.env)] := by rfl) : Wk G X Wx tg (.Call (.Name "range" p) [e] [] pos) (fun ρ => bnd (g ρ) rng1) :=
  weakI (pi_range1 hg hm (a_cons h a_nil hs) hs) fun σ H R ⟨c, ρ, n, P, PX, I, q, hg, hx⟩ => tAr.bnd (f := fun ds => match ds with | [d] => rng1 d | _ => stuck) I q hx fun ds k vs S' H' p g I' hx' r => by
    cases ds with
    | nil => exact p.elim
    | cons d ds =>
      cases ds with
      | cons _ _ => exact p.elim
      | nil =>
        obtain ⟨v, rfl, r1⟩ := r.one_inv
        cases d with
        | int j => obtain rfl : v = V.int j := r1; exact ⟨j, rfl, p.1.1, p.1.2, hg _ k S' H' _ p.2 g I' walks_rng⟩
        | _ => exact p.elim
/-- the signs of a text -/
def signs : D → W (List D)
  | .str x => ret (x.cps.toList.map fun k => .str ⟨#[k]⟩)
  | _ => stuck
theorem w_str {tg e : Expr} {g : Env → W D} (h : E G X Wx e g) : Wk G X Wx tg e (fun ρ => bnd (g ρ) signs) :=
  weakI (pi_str h) fun σ H R ⟨c, ρ, n, P, PX, I, q, hg, hx⟩ => tE.bnd I q hx fun d k v S' H' p g I' hx' r => by
    cases d with
    | str x =>
      obtain ⟨rfl, z⟩ := r
      refine ⟨x, rfl, hg _ k S' H' _ p g I' fun c2 ρ2 σ2 H2 n2 i g2 I2 => ?_⟩
      rw [List.length_map, Array.length_toList]
      refine ⟨fun hi => ⟨hi, fun v H3 ⟨e1, w, e2, e3⟩ => ⟨c2.S, .str ⟨#[w]⟩, e1 ▸ .refl, e1 ▸ I2, ?_, e3, by rw [sizeLine_eq]; show 1 ≤ 16777216; decide⟩⟩, fun hi => hi⟩
      rw [List.getElem?_map, Array.getElem?_toList, e2]
      rfl
    | _ => exact p.elim

/-! ### for -/
/-- slot i is given up ahead of a block -/
theorem SI.frz {K : PySem.W.Frag} {c : C} {σ : L2.St} {ρ : Env} {H : Hp} {n : Nt} (i : Nat) (I : SI G K c σ H ρ n) : ∃ S', SI G K (c.to S') σ H (PL.frz i ρ) n ∧ Grow c.S S' H H := by
  cases e : ρ[i]? with
  | none => exact ⟨c.S, by unfold PL.frz; rw [e]; exact I, .refl⟩
  | some sv =>
    have ef : PL.frz i ρ = ρ.set i sv.bor := by unfold PL.frz; rw [e]
    rw [ef]
    by_cases ho : sv.isOwn = true
    · obtain ⟨a, es⟩ : ∃ a, slot σ i = some (.ref a) := by
        have q := I.slots i sv e
        cases sv with
        | own xs => obtain ⟨a, _, h, _⟩ := q; exact ⟨a, h⟩
        | ownK xs => obtain ⟨a, _, h, _⟩ := q; exact ⟨a, h⟩
        | _ => cases ho
      have hl : i < ρ.length := (List.getElem?_eq_some_iff.mp e).1
      have g : Grow c.S (fun b => c.S b ∨ b = a) H H := ⟨fun _ q => .inl q, fun _ _ => rfl⟩
      have key : ∀ j s, (ρ.set i sv.bor)[j]? = some s → (j = i ∧ s = sv.bor) ∨ (i ≠ j ∧ ρ[j]? = some s) := fun j s e => by
        by_cases h : i = j
        · subst h
          rw [List.getElem?_set_self hl] at e
          exact .inl ⟨rfl, (Option.some.inj e).symm⟩
        · rw [List.getElem?_set_ne h] at e
          exact .inr ⟨h, e⟩
      obtain ⟨y1, y2, y3⟩ := I.own i sv a e ho es
      refine ⟨fun b => c.S b ∨ b = a, ⟨by rw [List.length_set, I.len], fun j s e2 => ?_, fun j s b e2 ho2 es2 => ?_, fun j k s s' b hn e1 e2 h1 h2 es1 es2 => ?_, fun b q => ?_, I.fr, fun p e2 => ?_, fun b q => ⟨fun z => z.elim (I.no b q).1 fun z => (I.no b q).2 (z ▸ y2), (I.no b q).2⟩, fun q e => ⟨(I.tab q e).1, (I.tab q e).2.grow g rfl⟩, fun b nd e => ⟨(I.mu b nd e).1.grow g rfl, fun z => Or.elim z (I.mu b nd e).2.1 fun z => (by rw [z, y3] at e; cases e), (I.mu b nd e).2.2⟩, I.mu0, I.mz⟩, g⟩
      · rcases key j s e2 with ⟨rfl, rfl⟩ | ⟨_, h⟩
        · have q := (I.slots j sv e).grow g fun _ _ _ => rfl
          cases sv with
          | own xs => obtain ⟨b, vs, e1, r, z, q⟩ := q; rw [es] at e1; cases e1; exact ⟨.ref a, es, a, vs, rfl, ⟨.inr rfl, r⟩, z, q⟩
          | ownK xs => obtain ⟨b, vs, e1, r, q⟩ := q; rw [es] at e1; cases e1; exact ⟨.ref a, es, a, vs, rfl, ⟨.inr rfl, .inl r⟩, q⟩
          | _ => cases ho
        · exact (I.slots j s h).grow g fun _ _ _ => rfl
      · rcases key j s e2 with ⟨rfl, rfl⟩ | ⟨hn, h⟩
        · rw [bor_own] at ho2; cases ho2
        · obtain ⟨z1, z2⟩ := I.own j s b h ho2 es2
          exact ⟨fun q => q.elim z1 fun q => I.apart i j sv s a hn e h ho ho2 es (q ▸ es2), z2⟩
      · rcases key j s e1 with ⟨rfl, rfl⟩ | ⟨_, h1'⟩
        · rw [bor_own] at h1; cases h1
        · rcases key k s' e2 with ⟨rfl, rfl⟩ | ⟨_, h2'⟩
          · rw [bor_own] at h2; cases h2
          · exact I.apart j k s s' b hn h1' h2' h1 h2 es1 es2
      · rcases q with q | rfl
        · exact I.dom b q
        · exact I.own_there ⟨i, sv, e, ho, es⟩
      · obtain ⟨h1, h2, h3, h4, h5⟩ := I.pen p e2
        exact ⟨h1, fun q => q.elim h2 fun q => h4 (q ▸ y2), fun q => q.elim h3 fun q => h5 (q ▸ y2), h4, h5⟩
    · have eb : sv.bor = sv := by cases sv <;> first | rfl | exact absurd rfl ho
      have e3 : ρ.set i sv = ρ := by
        apply List.ext_getElem?
        intro j
        by_cases h : i = j
        · subst h
          rw [List.getElem?_set_self (List.getElem?_eq_some_iff.mp e).1, e]
        · rw [List.getElem?_set_ne h]
      rw [eb, e3]
      exact ⟨c.S, I, .refl⟩
end
end PL

/-! The layer: comprehensions. -/
namespace PL
open PySem PySem.Spec L2

def wip : List Nat → Env → Env
  | [], ρ => ρ
  | v :: vs, ρ => (wip vs ρ).set v .un
def noOwn (vs : List Nat) (ρ : Env) : Bool := vs.all fun v => match ρ[v]? with
  | some s => !s.isOwn
  | none => true
def quiet {α : Type} (m : W α) : W α := fun n P _ => m n P fun _ _ => False
def compW (t : Tg) (gt : Env → W Bool) (ge : Env → W D) (ρ : Env) : List D → W (List D)
  | [] => ret []
  | x :: xs => bnd (setT t x ρ) fun ρ' => bnd (gt ρ') fun b => if b = true then bnd (ge ρ') fun y => bnd (compW t gt ge ρ xs) fun ys => ret (y :: ys) else compW t gt ge ρ xs
abbrev WF : WX := fun _ _ _ _ => False

theorem wip_get : ∀ (vs : List Nat) (ρ : Env) (i : Nat) (s : SV), (wip vs ρ)[i]? = some s → s = .un ∨ (i ∉ vs ∧ ρ[i]? = some s)
  | [], ρ, i, s, h => .inr ⟨by simp, h⟩
  | v :: vs, ρ, i, s, h => by
    unfold wip at h
    by_cases e : v = i
    · subst e
      by_cases hl : v < (wip vs ρ).length
      · rw [List.getElem?_set_self hl] at h
        exact .inl (Option.some.inj h).symm
      · rw [List.getElem?_eq_none (by rw [List.length_set]; omega)] at h
        cases h
    · rw [List.getElem?_set_ne e] at h
      rcases wip_get vs ρ i s h with q | ⟨q1, q2⟩
      · exact .inl q
      · exact .inr ⟨fun z => (List.mem_cons.mp z).elim (fun z => e z.symm) q1, q2⟩
theorem wip_out : ∀ (vs : List Nat) (ρ : Env) (i : Nat), i ∉ vs → (wip vs ρ)[i]? = ρ[i]?
  | [], _, _, _ => rfl
  | v :: vs, ρ, i, h => by
    unfold wip
    rw [List.getElem?_set_ne fun e => h (by rw [e]; exact List.mem_cons_self), wip_out vs ρ i fun z => h (List.mem_cons_of_mem _ z)]
theorem wip_len : ∀ (vs : List Nat) (ρ : Env), (wip vs ρ).length = ρ.length
  | [], _ => rfl
  | v :: vs, ρ => by unfold wip; rw [List.length_set, wip_len vs ρ]
theorem wipe_out : ∀ (vs : List Nat) (σ : L2.St) (i : Nat), i ∉ vs → (L2.wipe σ vs)[i]? = σ[i]?
  | [], _, _, _ => rfl
  | v :: vs, σ, i, h => by
    unfold L2.wipe
    rw [List.getElem?_set_ne fun e => h (by rw [e]; exact List.mem_cons_self), wipe_out vs σ i fun z => h (List.mem_cons_of_mem _ z)]
theorem wipe_in : ∀ (vs : List Nat) (σ : L2.St) (i : Nat), i ∈ vs → i < σ.length → (L2.wipe σ vs)[i]? = some none
  | [], _, _, h, _ => nomatch h
  | v :: vs, σ, i, h, hl => by
    unfold L2.wipe
    by_cases e : v = i
    · subst e
      rw [List.getElem?_set_self (by rw [L2.wipe_length]; exact hl)]
    · rw [List.getElem?_set_ne e]
      exact wipe_in vs σ i ((List.mem_cons.mp h).resolve_left fun z => e z.symm) hl
/-- the slots that the targets may change are wiped: the rest is the same -/
theorem wipe_but {vs ws : List Nat} {σ σ' : L2.St} (b : But ws (L2.wipe σ vs) σ') (h : ∀ i ∈ ws, i ∈ vs) : L2.wipe σ' vs = L2.wipe σ vs := by
  have hl : σ'.length = σ.length := b.1.trans (L2.wipe_length σ vs)
  apply List.ext_getElem?
  intro i
  by_cases hi : i ∈ vs
  · by_cases hz : i < σ.length
    · rw [wipe_in vs σ' i hi (by omega), wipe_in vs σ i hi hz]
    · rw [List.getElem?_eq_none (by rw [L2.wipe_length]; omega), List.getElem?_eq_none (by rw [L2.wipe_length]; omega)]
  · rw [wipe_out vs σ' i hi, b.2 i fun z => hi (h i z)]

section
variable {G : PenK} {K : PySem.W.Frag} {c : C} {σ : L2.St} {ρ : Env} {H : Hp} {n : Nt}
theorem SI.wipe (vs : List Nat) (I : SI G K c σ H ρ n) : SI G K c (L2.wipe σ vs) H (wip vs ρ) n := by
  have st : ∀ i, i ∉ vs → slot (L2.wipe σ vs) i = slot σ i := fun i h => by unfold slot; rw [wipe_out vs σ i h]
  refine ⟨by rw [wip_len, L2.wipe_length, I.len], fun i sv e => ?_, fun i sv a e ho es => ?_, fun i j sv sv' a hn e e' ho ho' es es' => ?_, I.dom, I.fr, I.pen, I.no, I.tab, I.mu, I.mu0, I.mz⟩
  · rcases wip_get vs ρ i sv e with rfl | ⟨h1, h2⟩
    · trivial
    · rw [st i h1]; exact I.slots i sv h2
  · rcases wip_get vs ρ i sv e with rfl | ⟨h1, h2⟩
    · cases ho
    · exact I.own i sv a h2 ho (st i h1 ▸ es)
  · rcases wip_get vs ρ i sv e with rfl | ⟨h1, h2⟩
    · cases ho
    · rcases wip_get vs ρ j sv' e' with rfl | ⟨h1', h2'⟩
      · cases ho'
      · exact I.apart i j sv sv' a hn h2 h2' ho ho' (st i h1 ▸ es) (st j h1' ▸ es')
/-- within a comprehension's block: the new list at D is kept, and is never among what stays -/
def C.blk (c : C) (D : Addr) (o : HO) : C := { c with H0 := fun a => if a = D then some o else c.H0 a, no := fun a => c.no a ∨ a = D }
theorem SI.blk {D : Addr} {o : HO} (I : SI G K c σ H ρ n) (hD : H D = some o) (h0 : c.H0 D = none) (hS : ¬ c.S D) (hM : n.μ D = none) (ho : ¬ ownS ρ σ D) : SI G K (c.blk D o) σ H ρ n := by
  have up : ∀ a, c.H0 a ≠ none → (c.blk D o).H0 a ≠ none := fun a h => by
    show (if a = D then some o else c.H0 a) ≠ none
    split
    · exact fun z => nomatch z
    · exact h
  refine ⟨I.len, I.slots, fun i sv a e h es => ⟨(I.own i sv a e h es).1, ?_, (I.own i sv a e h es).2.2⟩, I.apart, I.dom, fun a u e hn => ?_, fun p e => ?_, fun a h => ?_, fun q e => ⟨.inl (I.tab q e).1, (I.tab q e).2⟩, fun a nd e => ⟨(I.mu a nd e).1, (I.mu a nd e).2.1, (I.mu a nd e).2.2.1.imp id fun h => (if_neg (show ¬ a = D from fun z => (by rw [z, hM] at e; cases e))).trans h, (I.mu a nd e).2.2.2⟩, fun a h => ⟨(I.mu0 a h).1, up a (I.mu0 a h).2⟩, I.mz⟩
  · show (if a = D then some o else c.H0 a) = none
    rw [if_neg (show ¬ a = D from fun z => ho ⟨i, sv, e, h, by rw [← z]; exact es⟩)]
    exact (I.own i sv a e h es).2.1
  · have e : (if a = D then some o else c.H0 a) = some u := e
    split at e
    · rename_i z; rw [z, hD]; exact e
    · exact I.fr a u e hn
  · obtain ⟨h1, h2, h3, h4, h5⟩ := I.pen p e
    exact ⟨h1, h2, h3, up _ h4, up _ h5⟩
  · rcases h with h | h
    · exact ⟨(I.no a h).1, up a (I.no a h).2⟩
    · rw [h]
      exact ⟨hS, by show (if D = D then some o else c.H0 D) ≠ none; rw [if_pos rfl]; exact fun z => nomatch z⟩
/-- an object beside all that is told is changed or laid -/
theorem SI.put {D : Addr} {o : HO} (I : SI G K c σ H ρ n) (h0 : c.H0 D = none) (hS : ¬ c.S D) (hM : n.μ D = none) (ho : ¬ ownS ρ σ D) : SI G K c σ (upd H D o) ρ n ∧ Grow c.S c.S H (upd H D o) := by
  have g : Grow c.S c.S H (upd H D o) := ⟨fun _ q => q, fun b q => upd_ne (show b ≠ D from fun z => hS (z ▸ q))⟩
  refine ⟨⟨I.len, fun i sv e => (I.slots i sv e).grow g fun b eb h => upd_ne (show b ≠ D from fun z => ho ⟨i, sv, e, h, z ▸ eb⟩), I.own, I.apart, fun b q => by rw [g.eq b q]; exact I.dom b q, fun b u e q => ?_, fun q e => ?_, I.no, fun q e => ⟨(I.tab q e).1, (I.tab q e).2.grow g (upd_ne fun z => (I.tabN e).2.1 (by rw [z]; exact h0))⟩, fun b nd e => ⟨(I.mu b nd e).1.grow g (upd_ne (show b ≠ D from fun z => (by rw [z, hM] at e; cases e))), (I.mu b nd e).2⟩, I.mu0, I.mz⟩, g⟩
  · rw [upd_ne (show b ≠ D from fun z => by rw [z, h0] at e; cases e)]
    exact I.fr b u e q
  · obtain ⟨h1, h2, h3, h4, h5⟩ := I.pen q e
    exact ⟨G.dep h1 (upd_ne (show q.1 ≠ D from fun z => h4 (by rw [z]; exact h0))) (upd_ne (show q.2 ≠ D from fun z => h5 (by rw [z]; exact h0))), h2, h3, h4, h5⟩
/-- back from the block -/
theorem SI.restore {D : Addr} {o : HO} {vs : List Nat} {σ2 : L2.St} {ρ2 : Env} {H' : Hp} {S' : Addr → Prop} {k : Nt} (I : SI G K c σ H ρ n) (h0 : c.H0 D = none) (J : SI G K ((c.blk D o).to S') σ2 H' ρ2 k) (g : Grow c.S S' H H')
    (b : ∀ i, i ∉ vs → σ2[i]? = σ[i]?) (be : ∀ i, i ∉ vs → ρ2[i]? = ρ[i]?) (hn : noOwn vs ρ = true) : SI G K (c.to S') σ H' ρ k ∧ H' D = some o ∧ ¬ S' D ∧ k.μ D = none := by
  have nD : ∀ a, c.H0 a ≠ none → a ≠ D := fun a h e => h (e ▸ h0)
  have H0e : ∀ a, a ≠ D → (c.blk D o).H0 a = c.H0 a := fun a h => if_neg h
  have notIn : ∀ i sv, ρ[i]? = some sv → sv.isOwn = true → i ∉ vs := fun i sv e ho hi => by
    have := List.all_eq_true.mp hn i hi
    rw [e] at this
    simp [ho] at this
  have st : ∀ i, i ∉ vs → slot σ2 i = slot σ i := fun i h => by unfold slot; rw [b i h]
  have oD : ((c.blk D o).to S').H0 D = some o := if_pos rfl
  have notpen : ∀ a, ¬ G.pens c a → ¬ G.pens ((c.blk D o).to S') a := fun a h z => h z
  have muD : ∀ a nd, k.μ a = some nd → c.mu a ∨ c.H0 a = none := fun a nd e => (J.mu a nd e).2.2.1.imp id fun h => by
    by_cases z : a = D
    · rw [z, oD] at h; cases h
    · exact (H0e a z).symm.trans h
  have mD : k.μ D = none := by
    cases e : k.μ D with
    | none => rfl
    | some nd =>
      rcases (J.mu D nd e).2.2.1 with h | h
      · exact absurd h0 (I.mu0 D h).2
      · rw [oD] at h; cases h
  refine ⟨⟨I.len, fun i sv e => ?_, fun i sv a e ho es => ?_, I.apart, J.dom, fun a u e hp => ?_, fun p e => ?_, fun a h => ⟨(J.no a (.inl h)).1, (I.no a h).2⟩, fun q e => ⟨(I.tab q e).1, (J.tab q e).2⟩, fun a nd e => ⟨(J.mu a nd e).1, (J.mu a nd e).2.1, muD a nd e, (J.mu a nd e).2.2.2⟩, fun a h => ⟨(J.mu0 a h).1, (I.mu0 a h).2⟩, J.mz⟩, ?_, (J.no D (.inr rfl)).1, mD⟩
  · by_cases ho : sv.isOwn = true
    · have hi := notIn i sv e ho
      have q := J.slots i sv (by rw [be i hi]; exact e)
      rw [st i hi] at q
      cases sv with
      | own xs => exact q
      | ownK xs => exact q
      | _ => cases ho
    · exact (I.slots i sv e).grow g fun a _ h => absurd h ho
  · have hi := notIn i sv e ho
    have q := J.own i sv a (by rw [be i hi]; exact e) ho (by rw [st i hi]; exact es)
    exact ⟨q.1, (I.own i sv a e ho es).2.1, q.2.2⟩
  · exact J.fr a u (by rw [show ((c.blk D o).to S').H0 a = c.H0 a from H0e a (nD a (by rw [e]; exact fun z => nomatch z))]; exact e) (notpen a hp)
  · obtain ⟨h1, h2, h3, _, _⟩ := J.pen p e
    obtain ⟨_, _, _, h4, h5⟩ := I.pen p e
    exact ⟨h1, h2, h3, h4, h5⟩
  · exact J.fr D o oD (notpen D (I.penOld h0))
end

section
variable {G : PenK} {X : Cx} {Wx : WX}
/-- a block's tests -/
def Ts (G : PenK) (X : Cx) (es : List Expr) (g : Env → W Bool) : Prop := PTs X es (tT G X WF g)
theorem ts_nil : Ts G X [] (fun _ => ret true) := ⟨fun pins s σ H Q I ⟨c, ρ, n, P, PX, I', q, hg, hx⟩ => pts_nil.run pins s σ H Q I (hg true n c.S H q .refl I')⟩
theorem lc_body {t : Tg} {gt : Env → W Bool} {ge : Env → W D} {vs : List Nat} {c : C} {σ : L2.St} {ρ : Env} {H H' : Hp} {S' : Addr → Prop} {k : Nt} {xs : List D} {J : It} {P : List D → Nt → Prop} {Q : VK} (hix : ∀ i ∈ t.ix, i ∈ vs) (hg : GlO G X c σ ρ H P Q) (hz : xs.length ≤ sizeLine) (hno : noOwn vs ρ = true)
    (p : compW t gt ge (wip vs ρ) xs k P fun _ _ => False) (g : Grow c.S S' H H') (I' : SI G X.K (c.to S') σ H' ρ k) (wk : Walks G X.K J S' H' xs) : tLc (fun _ H R => R J H) (gT X.K t) (tT G X WF gt) (tE G X WF ge) vs σ H' Q := fun D hD => by
    have h0 : c.H0 D = none := I'.freeOld hD
    have hS : ¬ S' D := I'.freeS hD
    have hM : k.μ D = none := I'.freeM hD
    have hO : ¬ ownS ρ σ D := fun z => I'.own_there z hD
    obtain ⟨ID, gD⟩ := SI.put (o := .lst []) I' h0 hS hM hO
    -- the turns
    refine ⟨fun i m H2 => m = xs.length - i ∧ i ≤ xs.length ∧ ∃ S2 k2 acc vac, Grow S' S2 H' H2 ∧ SI G X.K (c.to S2) σ H2 ρ k2 ∧ H2 D = some (.lst vac) ∧ ¬ S2 D ∧ k2.μ D = none ∧ Reps X.K S2 H2 acc vac ∧ acc.length ≤ i ∧ compW t gt ge (wip vs ρ) (xs.drop i) k2 (fun ys k => P (acc ++ ys) k) (fun _ _ => False),
      ⟨_, rfl, Nat.zero_le _, S', k, [], [], gD, ID, upd_same, hS, hM, rfl, Nat.le_refl _, p⟩, ?_⟩
    rintro i m H2 ⟨rfl, hi2, S2, k2, acc, vac, g2, I2, e2, n2, m2, r2, l2, p2⟩
    obtain ⟨w1, w2⟩ := wk (c.to S2) ρ σ H2 k2 i g2 I2
    by_cases hlt : i < xs.length
    · obtain ⟨go, yl⟩ := w1 hlt
      refine .inr ⟨go, fun H3 => ∃ S3 k3 acc vac, Grow S' S3 H' H3 ∧ SI G X.K (c.to S3) σ H3 ρ k3 ∧ H3 D = some (.lst vac) ∧ ¬ S3 D ∧ k3.μ D = none ∧ Reps X.K S3 H3 acc vac ∧ acc.length ≤ i + 1 ∧ compW t gt ge (wip vs ρ) (xs.drop (i + 1)) k3 (fun ys k => P (acc ++ ys) k) (fun _ _ => False),
        fun H3 q => ⟨xs.length - (i + 1), by omega, rfl, hlt, q⟩, fun v H3 y => ?_⟩
      -- the walk may look at the list too: it is kept by the block's ghost
      obtain ⟨wb, _⟩ := wk ((c.to S2).blk D (.lst vac)) ρ σ H2 k2 i g2 (SI.blk (c := c.to S2) I2 e2 h0 n2 m2 hO)
      obtain ⟨_, yb⟩ := wb hlt
      obtain ⟨S3, x, g3, I3, ex, r3⟩ := yb v H3 y
      have ed : xs.drop i = x :: xs.drop (i + 1) := by
        rw [List.drop_eq_getElem_cons hlt]
        rw [List.getElem?_eq_getElem hlt] at ex
        cases ex
        rfl
      rw [ed] at p2
      refine gT_ok t (SI.wipe vs I3) r3 p2 fun ρ4 k4 σ4 p4 I4 b4 be4 => ⟨wipe_but b4 hix, ⟨_, ρ4, k4, fun b k => (if b = true then bnd (ge ρ4) fun y => bnd (compW t gt ge (wip vs ρ) (xs.drop (i + 1))) fun ys => ret (y :: ys) else compW t gt ge (wip vs ρ) (xs.drop (i + 1))) k (fun ys k => P (acc ++ ys) k) (fun _ _ => False), fun _ _ => False, I4, p4, fun b k5 S5 H5 p5 g5 I5 => ?_, fun _ _ _ _ _ _ z => z.elim⟩⟩
      have outσ : ∀ i, i ∉ vs → σ4[i]? = σ[i]? := fun i h => (b4.2 i fun z => h (hix i z)).trans (wipe_out vs σ i h)
      have outρ : ∀ i, i ∉ vs → ρ4[i]? = ρ[i]? := fun i h => (be4.2 i fun z => h (hix i z)).trans (wip_out vs ρ i h)
      have g25 : Grow S2 S5 H2 H5 := g3.trans g5
      cases b with
      | false =>
        obtain ⟨J5, eD5, nD5, mD5⟩ := SI.restore (vs := vs) (c := c.to S2) I2 h0 I5 g25 outσ outρ hno
        exact iteF ⟨S5, k5, acc, vac, g2.trans g25, J5, eD5, nD5, mD5, Reps.grow g25 _ _ r2, Nat.le_succ_of_le l2, p5⟩
      | true =>
        refine iteT (tE.bnd I5 p5 (fun _ _ _ _ _ _ z => z.elim) fun d k6 u S6 H6 p6 g6 I6 _ r6 => ?_)
        have g26 : Grow S2 S6 H2 H6 := g25.trans g6
        obtain ⟨J6, eD6, nD6, mD6⟩ := SI.restore (vs := vs) (c := c.to S2) I2 h0 I6 g26 outσ outρ hno
        have r26 := Reps.grow g26 _ _ r2
        refine ⟨vac, eD6, by rw [r2.len]; omega, S6, k6, acc ++ [d], vac ++ [u], ?_, ?_, upd_same, nD6, mD6, ?_, by rw [List.length_append]; show acc.length + 1 ≤ i + 1; omega, ?_⟩
        · exact (g2.trans g26).trans (SI.put (o := .lst (vac ++ [u])) J6 h0 nD6 mD6 hO).2
        · exact (SI.put (o := .lst (vac ++ [u])) J6 h0 nD6 mD6 hO).1
        · exact Reps.grow (SI.put (o := .lst (vac ++ [u])) J6 h0 nD6 mD6 hO).2 _ _ (Reps.app r26 (Reps.one r6))
        · have e : (fun (ys : List PL.D) (k : Nt) => P ((acc ++ [d]) ++ ys) k) = fun ys k => P (acc ++ (d :: ys)) k := by
            funext ys k
            rw [List.append_assoc]
            rfl
          rw [e]
          exact p6
    · have e : i = xs.length := by omega
      subst e
      rw [List.drop_length] at p2
      have p2' : P acc k2 := by
        have q : P (acc ++ []) k2 := p2
        rwa [List.append_nil] at q
      exact .inl ⟨w2 (Nat.le_refl _), hg acc k2 D vac S2 H2 p2' (g.trans g2) I2 e2 (by have : xs.length ≤ sizeLine := hz; omega) r2 ⟨⟨n2, h0, m2⟩, fun i sv e ho es => hO ⟨i, sv, e, ho, es⟩⟩⟩
theorem lc_law {t : Tg} {g : Env → W (List D)} {gt : Env → W Bool} {ge : Env → W D} {vs : List Nat} {σ : L2.St} {H : Hp} {Q : VK} (hix : ∀ i ∈ t.ix, i ∈ vs)
    (hh : tO G X Wx (fun ρ => bnd (g ρ) fun xs => few xs (grd (noOwn vs ρ = true) (quiet (compW t gt ge (wip vs ρ) xs)))) σ H Q) : tLc (tI G X Wx g) (gT X.K t) (tT G X WF gt) (tE G X WF ge) vs σ H Q := by
    obtain ⟨c, ρ, n, P, PX, I, q, hg, hx⟩ := hh
    exact ⟨c, ρ, n, fun xs k => few xs (grd (noOwn vs ρ = true) (quiet (compW t gt ge (wip vs ρ) xs))) k P PX, PX, I, q, fun xs k S' H' J ⟨hz, hno, p⟩ g I' wk => lc_body hix hg hz hno p g I' wk, hx⟩
theorem o_lc {elt tg iter : Expr} {ifs : List Expr} {scope : Scope} {own : List (Str × Nat)} {pos : Pos} {t : Tg} {g : Env → W (List D)} {gt : Env → W Bool} {ge : Env → W D} (hc : X.calm = true) (hN : X.N.Nodup) (hi : Wk G X Wx tg iter g) (ok : BlkOk X.N X.env.scope scope own)
    (hg : ∀ (s : Shared) (H : Hp) (A : Addr) (cl : List (Str × Addr)) (fp : List Addr), PTg (X.blk s H scope (compEnvC scope cl A X.env) fp) tg t) (ht : ∀ (s : Shared) (H : Hp) (A : Addr) (cl : List (Str × Addr)) (fp : List Addr), Ts G (X.blk s H scope (compEnvC scope cl A X.env) fp) ifs gt)
    (he : ∀ (s : Shared) (H : Hp) (A : Addr) (cl : List (Str × Addr)) (fp : List Addr), E G (X.blk s H scope (compEnvC scope cl A X.env) fp) WF elt ge) (hix : ∀ i ∈ t.ix, i ∈ own.map (·.2) := by decide) (hs : ∀ x, foldedSetIterable iter X.env x = pure x := by intro _; rfl) :
    EO G X Wx (.ListComp elt [⟨tg, iter, ifs, 0⟩] scope pos) (fun ρ => bnd (g ρ) fun xs => few xs (grd (noOwn (own.map (·.2)) ρ = true) (quiet (compW t gt ge (wip (own.map (·.2)) ρ) xs)))) :=
  weakE (pe_lc (g := gT X.K t) (tt := tT G X WF gt) (te := tE G X WF ge) hc hN hi ok hg ht he hs) fun σ H Q q => lc_law hix q
/-- name = [..] on one line, the name a local -/
theorem s_asgLc {y : Str} {py spos : Pos} {elt tg iter : Expr} {ifs : List Expr} {scope : Scope} {own : List (Str × Nat)} {pos : Pos} {t : Tg} {g : Env → W (List D)} {gt : Env → W Bool} {ge : Env → W D} (i : Nat) (hc : X.calm = true) (hN : X.N.Nodup) (hi : Wk G X Wx tg iter g) (ok : BlkOk X.N X.env.scope scope own)
    (hg : ∀ (s : Shared) (H : Hp) (A : Addr) (cl : List (Str × Addr)) (fp : List Addr), PTg (X.blk s H scope (compEnvC scope cl A X.env) fp) tg t) (ht : ∀ (s : Shared) (H : Hp) (A : Addr) (cl : List (Str × Addr)) (fp : List Addr), Ts G (X.blk s H scope (compEnvC scope cl A X.env) fp) ifs gt)
    (he : ∀ (s : Shared) (H : Hp) (A : Addr) (cl : List (Str × Addr)) (fp : List Addr), E G (X.blk s H scope (compEnvC scope cl A X.env) fp) WF elt ge) (hy : X.N[i]? = some y := by rfl) (hyl : X.env.scope.names.lookup y = some .local := by rfl) (hix : ∀ i ∈ t.ix, i ∈ own.map (·.2) := by decide)
    (hk : X.env.scope.kind = .function := by rfl) (hln : (py.line == pos.line) = true := by rfl) (hsc : (scope.names.any fun (n, k) => n == y && (k == .local || k == .cell)) = false := by rfl) (hs : ∀ x, foldedSetIterable iter X.env x = pure x := by intro _; rfl) :
    St1 G X Wx (.Assign [.Name y py] (.ListComp elt [⟨tg, iter, ifs, 0⟩] scope pos) spos) (fun ρ => bnd (bnd (g ρ) fun xs => few xs (grd (noOwn (own.map (·.2)) ρ = true) (quiet (compW t gt ge (wip (own.map (·.2)) ρ) xs)))) fun xs => ret (.nx (ρ.set i (.d (.lst xs))))) :=
  weakS (ps_setLc (g := gT X.K t) (tt := tT G X WF gt) (te := tE G X WF ge) hc hN hy hyl (sw_true hk hyl hln hsc) hi ok hg ht he hs) fun Dn σ H ⟨c, ρ, n, P, PX, I, q, hg, hx⟩ =>
    lc_law hix (tO.bnd I q hx.x fun xs k a vs S' H' p g I' hx' e z r f => by
      obtain ⟨I2, g2⟩ := I'.adopt f (by rw [e]; exact fun z => nomatch z)
      exact hg.1 _ k _ _ H' p (g.trans g2) (I2.set (i := i) (d := .lst xs) (v := .ref a) ⟨a, vs, rfl, ⟨.inr rfl, e⟩, z, Reps.grow g2 _ _ r⟩))
end
end PL

/-! The layer: defs and their calls. -/
namespace PL
open PySem PySem.Spec PyProof.Rows L2

/-! ### a def's promise, where no repr is under way -/
structure FnG (P : Program) (w : World) (K : PySem.W.Frag) (mg : Str → Option Value) (base : Heap) (k : Nat) (f : Addr) (fd : FuncData) (ps : List Str) (sp : Sp) : Prop where
  len : ∀ vs H Q E, sp vs H Q E → vs.length = ps.length
  run : ∀ (A : Around) (outer : List PySem.Env) (s : Shared) (H : Hp) (args : Args) (us : List Value) (vs : List V) (Q : VK) (E : XK), A.guards = some [] → Room k A → Env0 P w K mg base A outer s H →
    BindsTo s fd args (ps.zip us) → Vals vs us → sp vs H Q E → codeAny (model P w) A (.call (.ref f) args) (CR (L2.CX P w) outer P w H s Q E) s
theorem FnG.mono {P : Program} {w : World} {K : PySem.W.Frag} {mg : Str → Option Value} {base : Heap} {j k : Nat} {f : Addr} {fd : FuncData} {ps : List Str} {sp : Sp} (F : FnG P w K mg base j f fd ps sp) (h : j ≤ k) : FnG P w K mg base k f fd ps sp :=
  ⟨F.len, fun A outer s H args us vs Q E hg hr => F.run A outer s H args us vs Q E hg (hr.mono h)⟩
theorem FnG.imp {P : Program} {w : World} {K : PySem.W.Frag} {mg : Str → Option Value} {base : Heap} {k : Nat} {f : Addr} {fd : FuncData} {ps : List Str} {sp sp' : Sp} (F : FnG P w K mg base k f fd ps sp)
    (h : ∀ vs H Q E, sp' vs H Q E → sp vs H Q E) : FnG P w K mg base k f fd ps sp' :=
  ⟨fun vs H Q E q => F.len vs H Q E (h _ _ _ _ q), fun A outer s H args us vs Q E hg hr he hb hv hs => F.run A outer s H args us vs Q E hg hr he hb hv (h _ _ _ _ hs)⟩

theorem FnG.of_bodyC {P : Program} {w : World} {K : PySem.W.Frag} {mg : Str → Option Value} {base : Heap} {k : Nat} {f : Addr} {fd : FuncData} {x qual : Str} {st : Stmt} {N ps : List Str} {sp : Sp} (F : Fun K x qual st f fd) (S : FnScope N ps (defScope st))
    (len : ∀ vs H Q E, sp vs H Q E → vs.length = ps.length)
    (body : ∀ (cdv : Value) (A : Around) (outer : List PySem.Env) (s : Shared) (H : Hp) (vs : List V) (Q : VK) (E : XK), fd.code = cdv → A.guards = some [] → Room k (A.deeper (envOfC qual (defScope st) s.heap.objs.size f cdv)) → sp vs H Q E →
      ∃ t, PSs (cxOf (L2.CX P w) P w K mg base N qual (defScope st) f cdv A outer s H E) (defBody st) t ∧ t { nx := fun _ H' => Q .non H', rt := Q } (L2.start N vs) H) : FnG P w K mg base (k + 1) f fd ps sp := by
  obtain ⟨oc, od, kV, doc, pm, an, cdv, ct, osl, rfl, lk, hcd⟩ := F.ex
  refine ⟨len, fun A outer s H args us vs Q E hg hr e0 hb r hsp => ?_⟩
  have hk : K.In s.heap := e0.mod.kin.keeps fun b o e => (e0.bs b o e).1
  have hlim : s.heap.NoLimit := e0.mod.nolimit.keeps fun b o e => (e0.bs b o e).1
  have loc : ∀ y ∈ ps.zip us, (defScope st).names.lookup y.1 = some .local ∨ ((defScope st).names.lookup y.1 = some .cell ∧ ((cellsFrom (s.heap.objs.size + 1) (defScope st).names []).lookup y.1).isSome = true) := by
    rintro ⟨y, v⟩ hy
    cases S.par y (List.of_mem_zip hy).1 with
    | inl q => exact Or.inl q
    | inr q => exact Or.inr ⟨q, PySem.W.cellsFrom_some _ _ _ (Or.inl q)⟩
  refine codeAny_call_function hr.depth (hk _ _ lk) rfl S.co S.gen rfl (PySem.W.codeRec_of hk hcd) (hb _ _ _ _ (wpAny_newFunctionEnv_cells S.kind loc ?_))
  rintro env rfl s1 hin
  refine ⟨hlim.keeps hin.toInCall.keep, codeAny_func ?_⟩
  obtain ⟨t, ht, hq⟩ := body cdv A outer s H vs Q E rfl hg (hr.deeper _) hsp
  have J := inv_start (CX := L2.CX P w) (E := E) (mg := mg) (base := base) S hr.hd e0 (len _ _ _ _ hsp) r hin
  refine wpAny_mono (ht.run [] s1 (L2.start N vs) H _ J hq) (fun fl s' hs => ?_) fun _ _ z => z
  cases fl with
  | ret u => obtain ⟨v, σ', H', J', rv, q⟩ := hs; exact ⟨v, H', J'.os, J'.bare, J'.base, J'.hok, rv, q⟩
  | next => obtain ⟨σ', H', J', q⟩ := hs; exact ⟨.non, H', J'.os, J'.bare, J'.base, J'.hok, rfl, q⟩
  | brk => obtain ⟨_, _, _, q⟩ := hs; exact q.elim
  | cont => obtain ⟨_, _, _, q⟩ := hs; exact q.elim

theorem FnG.of_body {P : Program} {w : World} {K : PySem.W.Frag} {mg : Str → Option Value} {base : Heap} {k : Nat} {f : Addr} {fd : FuncData} {x qual : Str} {st : Stmt} {N ps : List Str} {sp : Sp} (F : Fun K x qual st f fd) (S : FnScope N ps (defScope st))
    (len : ∀ vs H Q E, sp vs H Q E → vs.length = ps.length)
    (body : ∀ (cdv : Value) (A : Around) (outer : List PySem.Env) (s : Shared) (H : Hp) (vs : List V) (Q : VK) (E : XK), A.guards = some [] → Room k (A.deeper (envOfC qual (defScope st) s.heap.objs.size f cdv)) → sp vs H Q E →
      ∃ t, PSs (cxOf (L2.CX P w) P w K mg base N qual (defScope st) f cdv A outer s H E) (defBody st) t ∧ t { nx := fun _ H' => Q .non H', rt := Q } (L2.start N vs) H) : FnG P w K mg base (k + 1) f fd ps sp :=
  FnG.of_bodyC F S len fun cdv A outer s H vs Q E _ => body cdv A outer s H vs Q E

/-! ### promises over data -/
def ArgOk (K : PySem.W.Frag) (S : Addr → Prop) (H : Hp) (pen : Option (Addr × Addr)) : SV → V → Prop
  | .d x, v => Rep K S H x v
  | .pen, v => ∃ p, pen = some p ∧ v = .ref p.1
  | .lam f c q σ ds, v => v = .ref f ∧ LamOk K S H c q σ ds
  | .o a, v => v = .ref a
  | _, _ => False
def ArgsOk (K : PySem.W.Frag) (S : Addr → Prop) (H : Hp) (pen : Option (Addr × Addr)) : List SV → List V → Prop
  | [], vs => vs = []
  | x :: xs, vs => ∃ v ws, vs = v :: ws ∧ ArgOk K S H pen x v ∧ ArgsOk K S H pen xs ws
/-- the objects that are changed, as a callee finds them -/
def MuOk (G : PenK) (K : PySem.W.Frag) (S : Addr → Prop) (H : Hp) (pen : Option (Addr × Addr)) (n : Nt) : Prop :=
  (∀ a nd, n.μ a = some nd → NdOk K S H a nd ∧ ¬ S a ∧ (∀ p, pen = some p → a ≠ p.1 ∧ a ≠ p.2) ∧ ∀ q ∈ G.tab, a ≠ q.1) ∧ (G.chg = false → ∀ a, n.μ a = none)
structure After (G : PenK) (K : PySem.W.Frag) (S S' : Addr → Prop) (pen : Option (Addr × Addr)) (n : Nt) (H H' : Hp) (k : Nt) : Prop where
  grow : Grow S S' H H'
  dom : ∀ a, S' a → H' a ≠ none
  new : ∀ a, S' a → S a ∨ H a = none
  fr : ∀ a o, H a = some o → (∀ p, pen = some p → a ≠ p.1 ∧ a ≠ p.2) → (∀ q ∈ G.tab, a ≠ q.1) → n.μ a = none → H' a = some o
  tab : ∀ q ∈ G.tab, TabI S' H' q.1 q.2
  pen : ∀ p, pen = some p → G.inv H' p.1 p.2 k.n ∧ ¬ S' p.1 ∧ ¬ S' p.2
  mu : ∀ a nd, k.μ a = some nd → NdOk K S' H' a nd ∧ ¬ S' a ∧ (n.μ a ≠ none ∨ H a = none)
  mu0 : ∀ a, n.μ a ≠ none → k.μ a ≠ none
  mz : G.chg = false → ∀ a, k.μ a = none
def spM (G : PenK) (K : PySem.W.Frag) (mg : Str → Option Value) (ps : Nat) (m : List SV → W D) : Sp := fun vs H Q E =>
  ∃ (S : Addr → Prop) (pen : Option (Addr × Addr)) (args : List SV) (n : Nt) (P : D → Nt → Prop) (PX : Exc → Nt → Prop),
    args.length = ps ∧ (∀ a, S a → H a ≠ none) ∧ (∀ p, pen = some p → G.inv H p.1 p.2 n.n ∧ ¬ S p.1 ∧ ¬ S p.2) ∧ (∀ q ∈ G.tab, ¬ S q.1 ∧ TabI S H q.1 q.2) ∧ MuOk G K S H pen n ∧ ArgsOk K S H pen args vs ∧ m args n P PX ∧
    (∀ d k v S' H', P d k → After G K S S' pen n H H' k → Rep K S' H' d v → Q v H') ∧ ∀ x k S' H' cls dd, PX x k → After G K S S' pen n H H' k → RepX K mg S' H' x cls dd → E cls dd H'
section
variable {K : PySem.W.Frag} {S : Addr → Prop} {H : Hp} {pen : Option (Addr × Addr)}
theorem ArgsOk.len : ∀ {xs : List SV} {vs : List V}, ArgsOk K S H pen xs vs → vs.length = xs.length
  | [], _, h => by
    have e : _ = [] := h
    rw [e]
    rfl
  | _ :: xs, _, h => by
    obtain ⟨v, ws, rfl, _, q⟩ := h
    show ws.length + 1 = xs.length + 1
    rw [ArgsOk.len q]
theorem ArgsOk.get : ∀ {xs : List SV} {vs : List V} {i : Nat} {x : SV}, ArgsOk K S H pen xs vs → xs[i]? = some x → ∃ v, vs[i]? = some v ∧ ArgOk K S H pen x v
  | [], _, _, _, _, e => nomatch e
  | y :: xs, _, 0, x, h, e => by
    obtain ⟨v, ws, rfl, r, _⟩ := h
    cases e
    exact ⟨v, rfl, r⟩
  | y :: xs, _, i + 1, x, h, e => by
    obtain ⟨v, ws, rfl, _, q⟩ := h
    exact ArgsOk.get (i := i) q e
theorem ArgsOk.app : ∀ {xs ys : List SV} {vs ws : List V}, ArgsOk K S H pen xs vs → ArgsOk K S H pen ys ws → ArgsOk K S H pen (xs ++ ys) (vs ++ ws)
  | [], ys, vs, ws, h, q => by
    have e : vs = [] := h
    rw [e]
    exact q
  | x :: xs, ys, vs, ws, h, q => by
    obtain ⟨v, us, rfl, r, t⟩ := h
    exact ⟨v, us ++ ws, rfl, r, ArgsOk.app t q⟩
theorem ArgOk.grow {S' : Addr → Prop} {H' : Hp} (g : Grow S S' H H') : ∀ {x : SV} {v : V}, ArgOk K S H pen x v → ArgOk K S' H' pen x v
  | .d x, v, h => Rep.grow g x v h
  | .pen, _, h => h
  | .un, _, h => h.elim
  | .own _, _, h => h.elim
  | .ownK _, _, h => h.elim
  | .exc _, _, h => h.elim
  | .lam _ _ _ _ _, _, h => ⟨h.1, h.2.grow g⟩
  | .o _, _, h => h
theorem ArgsOk.grow {S' : Addr → Prop} {H' : Hp} (g : Grow S S' H H') : ∀ {xs : List SV} {vs : List V}, ArgsOk K S H pen xs vs → ArgsOk K S' H' pen xs vs
  | [], _, h => h
  | x :: xs, _, h => by
    obtain ⟨v, ws, e, r, q⟩ := h
    exact ⟨v, ws, e, r.grow g, ArgsOk.grow g q⟩
end

section
variable {G : PenK} {P : Program} {w : World} {K : PySem.W.Frag} {mg : Str → Option Value} {base : Heap}
theorem start_slot {N : List Str} {vs : List V} {i : Nat} : slot (L2.start N vs) i = vs[i]? := by
  unfold slot L2.start
  by_cases h : i < vs.length
  · rw [List.getElem?_append_left (by rw [List.length_map]; exact h), List.getElem?_map, List.getElem?_eq_getElem h]
    rfl
  · rw [List.getElem?_append_right (by rw [List.length_map]; omega), List.getElem?_replicate, List.getElem?_eq_none (by omega)]
    split <;> rfl
/-- the state at a body's entry -/
theorem SI.entry {S : Addr → Prop} {H : Hp} {pen : Option (Addr × Addr)} {args : List SV} {vs : List V} {N : List Str} {n : Nt} (hl : args.length ≤ N.length) (dom : ∀ a, S a → H a ≠ none) (hp : ∀ p, pen = some p → G.inv H p.1 p.2 n.n ∧ ¬ S p.1 ∧ ¬ S p.2) (ht : ∀ q ∈ G.tab, ¬ S q.1 ∧ TabI S H q.1 q.2) (hm : MuOk G K S H pen n)
    (r : ArgsOk K S H pen args vs) : SI G K ⟨S, H, pen, fun a => H a ≠ none ∧ ¬ S a, fun a => n.μ a ≠ none⟩ (L2.start N vs) H (args ++ List.replicate (N.length - args.length) SV.un) n := by
  have lv := r.len
  have key : ∀ (i : Nat) (sv : SV), (args ++ List.replicate (N.length - args.length) SV.un)[i]? = some sv → sv = .un ∨ args[i]? = some sv := fun i sv e => by
    by_cases h : i < args.length
    · rw [List.getElem?_append_left h] at e
      exact .inr e
    · rw [List.getElem?_append_right (by omega), List.getElem?_replicate] at e
      split at e
      · exact .inl (Option.some.inj e).symm
      · cases e
  have noO : ∀ (i : Nat) (sv : SV), (args ++ List.replicate (N.length - args.length) SV.un)[i]? = some sv → sv.isOwn = true → False := fun i sv e ho => by
    rcases key i sv e with rfl | e
    · cases ho
    · obtain ⟨v, _, q⟩ := r.get e
      cases sv with
      | own _ => exact q
      | ownK _ => exact q
      | _ => cases ho
  refine ⟨?_, fun i sv e => ?_, fun i sv a e ho => (noO i sv e ho).elim, fun i j sv sv' a _ e _ ho => (noO i sv e ho).elim, dom, fun a o e _ => e, fun p e => ?_, fun a h => ⟨h.2, h.1⟩, fun q e => ⟨⟨(ht q e).2.there, (ht q e).1⟩, (ht q e).2⟩, fun a nd e => ⟨(hm.1 a nd e).1, (hm.1 a nd e).2.1, .inl (by show n.μ a ≠ none; rw [e]; exact fun z => nomatch z), fun z => ?_⟩, fun a h => ⟨h, ?_⟩, hm.2⟩
  · unfold L2.start
    rw [List.length_append, List.length_replicate, List.length_append, List.length_map, List.length_replicate, lv]
  · rcases key i sv e with rfl | e
    · trivial
    · obtain ⟨v, e2, q⟩ := r.get e
      rw [start_slot, e2]
      cases sv with
      | d x => exact ⟨v, rfl, q⟩
      | pen => obtain ⟨p, h1, h2⟩ := q; exact ⟨p, h1, by rw [h2]⟩
      | un => trivial
      | own _ => exact q.elim
      | ownK _ => exact q.elim
      | exc _ => exact q.elim
      | lam _ _ _ _ _ => exact ⟨by rw [q.1], q.2⟩
      | o _ => exact congrArg some q
  · obtain ⟨h1, h2, h3⟩ := hp p e
    obtain ⟨k1, k2⟩ := G.there h1
    exact ⟨h1, h2, h3, k1, k2⟩
  · rcases z with ⟨p, e2, z⟩ | ⟨q, e2, z⟩
    · exact z.elim ((hm.1 a nd e).2.2.1 p e2).1 ((hm.1 a nd e).2.2.1 p e2).2
    · exact (hm.1 a nd e).2.2.2 q e2 z
  · obtain ⟨nd, e⟩ := Option.ne_none_iff_exists'.mp h
    exact (hm.1 a nd e).1.there
theorem SI.after {S S' : Addr → Prop} {H H' : Hp} {pen : Option (Addr × Addr)} {σ : L2.St} {ρ : Env} {n k : Nt} (g : Grow S S' H H') (I : SI G K ⟨S', H, pen, fun a => H a ≠ none ∧ ¬ S a, fun a => n.μ a ≠ none⟩ σ H' ρ k) : After G K S S' pen n H H' k := by
  refine ⟨g, I.dom, fun a h => ?_, fun a o e h ht hn => I.fr a o e fun z => z.elim (fun z => z.elim (fun ⟨p, e2, z⟩ => z.elim (h p e2).1 (h p e2).2) (fun ⟨q, e2, z⟩ => ht q e2 z)) fun z => z hn, fun q e => (I.tab q e).2, fun p e => ?_, fun a nd e => ⟨(I.mu a nd e).1, (I.mu a nd e).2.1, (I.mu a nd e).2.2.1⟩, fun a h => (I.mu0 a h).1, I.mz⟩
  · by_cases hs : S a
    · exact .inl hs
    · exact .inr (Classical.byContradiction fun z => (I.no a ⟨z, hs⟩).1 h)
  · obtain ⟨h1, h2, h3, _⟩ := I.pen p e
    exact ⟨h1, h2, h3⟩
end

/-! ### arguments of a def -/
section
variable {G : PenK} {X : Cx} {Wx : WX}
def GlV (G : PenK) (X : Cx) (c : C) (σ : L2.St) (ρ : Env) (H : Hp) (P : List SV → Nt → Prop) (Q : List V → Hp → Prop) : Prop :=
  ∀ ds k vs S' H', P ds k → Grow c.S S' H H' → SI G X.K (c.to S') σ H' ρ k → ArgsOk X.K S' H' c.pen ds vs → Q vs H'
def tVr (G : PenK) (X : Cx) (Wx : WX) (g : Env → W (List SV)) : TA := fun σ H Q => ∃ c ρ n P PX, SI G X.K c σ H ρ n ∧ g ρ n P PX ∧ GlV G X c σ ρ H P Q ∧ OKx G X Wx c σ ρ H PX
def AV (G : PenK) (X : Cx) (Wx : WX) (es : List Expr) (g : Env → W (List SV)) : Prop := PA X es (tVr G X Wx g)
def KV (G : PenK) (X : Cx) (Wx : WX) (kws : List Keyword) (g : Env → W (List SV)) : Prop := PK X kws (tVr G X Wx g)
theorem v_nil : AV G X Wx [] (fun _ => ret []) := weakA pa_nil fun σ H Q ⟨c, ρ, n, P, PX, I, q, hg, hx⟩ => hg [] n [] c.S H q .refl I rfl
theorem v_cons {e : Expr} {es : List Expr} {g : Env → W D} {gs : Env → W (List SV)} (h : E G X Wx e g) (hs : AV G X Wx es gs) (hp : starEach (e :: es) X.env = (false, eval e X.env) :: starEach es X.env := by rfl) :
    AV G X Wx (e :: es) (fun ρ => bnd (g ρ) fun x => bnd (gs ρ) fun xs => ret (.d x :: xs)) :=
  weakA (pa_cons h hs hp) fun σ H Q ⟨c, ρ, n, P, PX, I, q, hg, hx⟩ => tE.bnd I q hx fun d k u S' H' p g I' hx' r =>
    ⟨c.to S', ρ, k, fun ds k => P (.d d :: ds) k, PX, I', p, fun ds k2 us S2 H2 p2 g2 I2 r2 => hg (.d d :: ds) k2 (u :: us) S2 H2 p2 (g.trans g2) I2 ⟨u, us, rfl, Rep.grow g2 _ _ r, r2⟩, hx'⟩
def isPen (ρ : Env) (i : Nat) {α : Type} (m : W α) : W α := match ρ[i]? with
  | some .pen => m
  | _ => stuck
theorem isPen_inv {ρ : Env} {i : Nat} {α : Type} {m : W α} {n : Nt} {P : α → Nt → Prop} {PX : Exc → Nt → Prop} (h : isPen ρ i m n P PX) : ρ[i]? = some .pen ∧ m n P PX := by
  unfold isPen at h
  cases e : ρ[i]? with
  | none => rw [e] at h; exact h.elim
  | some sv =>
    rw [e] at h
    cases sv with
    | pen => exact ⟨rfl, h⟩
    | _ => exact h.elim
theorem v_pen {x : Str} {pos : Pos} {es : List Expr} {gs : Env → W (List SV)} (i : Nat) (hs : AV G X Wx es gs) (hN : X.N[i]? = some x := by rfl) (hv : Vis X.env.scope x := by first | exact Or.inl rfl | exact Or.inr (Or.inl rfl) | exact Or.inr (Or.inr rfl)) (hd : (x == ("__debug__" : Str)) = false := by decide)
    (hcd : (x == ("__classdict__" : Str)) = false := by decide) (hp : starEach (.Name x pos :: es) X.env = (false, eval (.Name x pos) X.env) :: starEach es X.env := by rfl) : AV G X Wx (.Name x pos :: es) (fun ρ => isPen ρ i (bnd (gs ρ) fun xs => ret (.pen :: xs))) :=
  weakA (pa_cons (pe_var hN hv hd hcd) hs hp) fun σ H Q ⟨c, ρ, n, P, PX, I, q, hg, hx⟩ => by
    obtain ⟨e, q⟩ := isPen_inv q
    obtain ⟨p, e1, e2⟩ := I.slots i _ e
    exact ⟨.ref p.1, slot_some e2, c, ρ, n, fun ds k => P (.pen :: ds) k, PX, I, q, fun ds k2 us S2 H2 p2 g2 I2 r2 => hg (.pen :: ds) k2 (.ref p.1 :: us) S2 H2 p2 g2 I2 ⟨_, us, rfl, ⟨p, e1, rfl⟩, r2⟩, hx⟩
/-- a call: one without the source of draws costs none -/
def callM (m : List SV → W D) (args : List SV) : W D :=
  if args.any (fun s => match s with | .pen => true | _ => false) then m args else fun n P PX => m args ⟨0, n.μ⟩ (fun d k => P d ⟨n.n, k.μ⟩) fun x k => PX x ⟨n.n, k.μ⟩
theorem ArgsOk.nopen {K : PySem.W.Frag} {S : Addr → Prop} {H : Hp} {pen : Option (Addr × Addr)} : ∀ {xs : List SV} {vs : List V}, xs.any (fun s => match s with | .pen => true | _ => false) = false → ArgsOk K S H pen xs vs → ArgsOk K S H none xs vs
  | [], _, _, h => h
  | x :: xs, _, e, h => by
    obtain ⟨v, ws, e1, r, q⟩ := h
    rw [List.any_cons, Bool.or_eq_false_iff] at e
    refine ⟨v, ws, e1, ?_, ArgsOk.nopen e.2 q⟩
    cases x with
    | pen => cases e.1
    | _ => exact r
/-- the caller's state behind a call -/
theorem SI.called {K : PySem.W.Frag} {c : C} {σ : L2.St} {ρ : Env} {H H' : Hp} {n k : Nt} {S' : Addr → Prop} {pen : Option (Addr × Addr)} (I : SI G K c σ H ρ n) (h : After G K c.S S' pen n H H' k) (hp : pen = c.pen ∨ (pen = none ∧ k.n = n.n)) : SI G K (c.to S') σ H' ρ k := by
  have keep : ∀ a o, H a = some o → ¬ G.pens c a → n.μ a = none → H' a = some o := fun a o e np nm => h.fr a o e (fun p ep => by
    rcases hp with z | z
    · exact ⟨fun q => np (.inl (.inl ⟨p, z ▸ ep, .inl q⟩)), fun q => np (.inl (.inl ⟨p, z ▸ ep, .inr q⟩))⟩
    · rw [z.1] at ep; cases ep) (fun q hq z => np (.inl (.inr ⟨q, hq, z⟩))) nm
  have nomu : ∀ a o, c.H0 a = some o → ¬ G.pens c a → n.μ a = none := fun a o e np => by
    cases q : n.μ a with
    | none => rfl
    | some nd =>
      rcases (I.mu a nd q).2.2.1 with z | z
      · exact absurd (.inr z) np
      · rw [e] at z; cases z
  refine ⟨I.len, fun i sv e => (I.slots i sv e).grow h.grow fun a ea ho => ?_, fun i sv a e ho es => ?_, I.apart, h.dom, fun a o e np => keep a o (I.fr a o e np) np (nomu a o e np), fun p e => ?_, fun a q => ?_, fun q e => ⟨(I.tab q e).1, h.tab q e⟩, fun a nd e => ?_, fun a q => ⟨h.mu0 a (I.mu0 a q).1, (I.mu0 a q).2⟩, h.mz⟩
  · have y := I.own i sv a e ho ea
    cases q : H a with
    | none => exact absurd q (I.own_there ⟨i, sv, e, ho, ea⟩)
    | some o => exact keep a o q (I.penOld y.2.1) y.2.2
  · have y := I.own i sv a e ho es
    refine ⟨fun z => (h.new a z).elim y.1 (I.own_there ⟨i, sv, e, ho, es⟩), y.2.1, ?_⟩
    cases q : k.μ a with
    | none => rfl
    | some nd => exact (h.mu a nd q).2.2.elim (fun z => absurd y.2.2 z) fun z => absurd z (I.own_there ⟨i, sv, e, ho, es⟩)
  · obtain ⟨h1, h2, h3, h4, h5⟩ := I.pen p e
    rcases hp with z | ⟨z, z2⟩
    · obtain ⟨k1, k2, k3⟩ := h.pen p (z ▸ e)
      exact ⟨k1, k2, k3, h4, h5⟩
    · obtain ⟨k1, k2⟩ := G.there h1
      have same : ∀ b, H b ≠ none → (∀ q ∈ G.tab, b ≠ q.1) → n.μ b = none → H' b = H b := fun b hb ht hn => by
        cases q : H b with
        | none => exact absurd q hb
        | some o => exact h.fr b o q (fun p' e' => by rw [z] at e'; cases e') ht hn
      have nt : ∀ b, (∃ xs, H b = some (.lst xs)) → ∀ q ∈ G.tab, b ≠ q.1 := fun b ⟨xs, e1⟩ q hq z => by
        obtain ⟨ps, e2, _⟩ := (I.tab q hq).2
        rw [← z, e1] at e2
        cases e2
      have pm : ∀ b, (b = p.1 ∨ b = p.2) → n.μ b = none := fun b hb => by
        cases q : n.μ b with
        | none => rfl
        | some nd => exact absurd (.inl ⟨p, e, hb⟩) (I.mu b nd q).2.2.2
      rw [z2]
      exact ⟨G.dep h1 (same _ k1 (nt _ (G.isL h1).1) (pm _ (.inl rfl))) (same _ k2 (nt _ (G.isL h1).2) (pm _ (.inr rfl))), fun q => (h.new _ q).elim h2 k1, fun q => (h.new _ q).elim h3 k2, h4, h5⟩
  · obtain ⟨h1, h2⟩ := I.no a q
    refine ⟨fun z => (h.new a z).elim h1 fun z => ?_, h2⟩
    have := I.freeOld z
    exact h2 this
  · obtain ⟨m1, m2, m3⟩ := h.mu a nd e
    refine ⟨m1, m2, ?_⟩
    rcases m3 with z | z
    · obtain ⟨nd0, e0⟩ := Option.ne_none_iff_exists'.mp z
      exact (I.mu a nd0 e0).2.2
    · refine ⟨.inr (I.freeOld z), fun w => ?_⟩
      rcases w with ⟨p, e2, w⟩ | ⟨q, e2, w⟩
      · obtain ⟨k1, k2⟩ := G.there (I.pen p e2).1
        exact w.elim (fun w => k1 (w ▸ z)) fun w => k2 (w ▸ z)
      · exact (I.tabN e2).2.2 (w ▸ z)
/-- the objects that are changed, for a callee -/
theorem SI.muOk {K : PySem.W.Frag} {c : C} {σ : L2.St} {ρ : Env} {H : Hp} {n : Nt} (I : SI G K c σ H ρ n) (pen : Option (Addr × Addr)) (hp : ∀ p, pen = some p → c.pen = some p) : MuOk G K c.S H pen n :=
  ⟨fun a nd e => ⟨(I.mu a nd e).1, (I.mu a nd e).2.1, fun p ep => ⟨fun z => (I.mu a nd e).2.2.2 (.inl ⟨p, hp p ep, .inl z⟩), fun z => (I.mu a nd e).2.2.2 (.inl ⟨p, hp p ep, .inr z⟩)⟩, fun q hq z => (I.mu a nd e).2.2.2 (.inr ⟨q, hq, z⟩)⟩, I.mz⟩
theorem call_core {c : C} {σ : L2.St} {ρ : Env} {H : Hp} {n : Nt} {P : D → Nt → Prop} {PX : Exc → Nt → Prop} {Q : VK} {m : List SV → W D} {args : List SV} {vs : List V} {ps : Nat} (I : SI G X.K c σ H ρ n) (hl : args.length = ps) (r : ArgsOk X.K c.S H c.pen args vs)
    (q : callM m args n P PX) (hg : Gl1 G X c σ ρ H P Q) (hx : OKx G X Wx c σ ρ H PX) : spM G X.K X.mg ps m vs H Q (WE Wx σ) := by
  unfold callM at q
  by_cases hp : args.any (fun s => match s with | .pen => true | _ => false) = true
  · rw [if_pos hp] at q
    refine ⟨c.S, c.pen, args, n, P, PX, hl, I.dom, fun p e => ?_, fun q e => ⟨(I.tabN e).1, (I.tab q e).2⟩, I.muOk c.pen fun _ h => h, r, q, fun d k v S' H' p h r => hg d k v S' H' p h.grow (I.called h (.inl rfl)) r, fun x k S' H' cls dd p h r => hx x k S' H' cls dd p h.grow (I.called h (.inl rfl)) r⟩
    obtain ⟨h1, h2, h3, _⟩ := I.pen p e
    exact ⟨h1, h2, h3⟩
  · rw [if_neg hp] at q
    have fix : ∀ {S' H' k}, After G X.K c.S S' none ⟨0, n.μ⟩ H H' k → After G X.K c.S S' none n H H' ⟨n.n, k.μ⟩ := fun h => ⟨h.grow, h.dom, h.new, h.fr, h.tab, (fun p e => nomatch e), h.mu, h.mu0, h.mz⟩
    exact ⟨c.S, none, args, ⟨0, n.μ⟩, _, _, hl, I.dom, fun p e => (nomatch e), fun q e => ⟨(I.tabN e).1, (I.tab q e).2⟩, I.muOk none (fun _ e => nomatch e), r.nopen (by simpa using hp), q, fun d k v S' H' p h r => hg d ⟨n.n, k.μ⟩ v S' H' p h.grow (I.called (fix h) (.inr ⟨rfl, rfl⟩)) r, fun x k S' H' cls dd p h r => hx x ⟨n.n, k.μ⟩ S' H' cls dd p h.grow (I.called (fix h) (.inr ⟨rfl, rfl⟩)) r⟩
def onB {α : Type} (b : Bool) (m : W α) : W α := match b with
  | true => m
  | false => stuck
def arity (n : Nat) (args : List SV) {α : Type} (m : W α) : W α := onB (Nat.beq args.length n) m
theorem arity_inv {n : Nat} {args : List SV} {α : Type} {m : W α} {k : Nt} {P : α → Nt → Prop} {PX : Exc → Nt → Prop} (h : arity n args m k P PX) : args.length = n ∧ m k P PX := by
  unfold arity at h
  cases e : Nat.beq args.length n with
  | true => rw [e] at h; exact ⟨Nat.eq_of_beq_eq_true e, h⟩
  | false => rw [e] at h; exact h.elim
/-- the callee runs -/
theorem run_G {k : Nat} {f : Addr} {fd : FuncData} {ps : List Str} {sp : Sp} {pins : List (Addr × Obj)} {σ : L2.St} {H : Hp} {s : Shared} {Q : VK} {a : Args} {us : List Value} {vs : List V} (F : FnG X.prog X.w X.K X.mg X.base k f fd ps sp) (hg : X.A.guards = some []) (hr : Room k X.A)
    (tk : Takes X Wx) (I : Inv X pins σ H s) (hb : BindsTo s fd a (ps.zip us)) (r : Vals vs us) (h : sp vs H Q (WE Wx σ)) : codeAny (model X.prog X.w) X.A (.call (.ref f) a) (fun r s' => match r with | .ok (.ret u) => EP X pins σ Q u s' | .ok _ => False | .error e => X.xe e s') s :=
  codeAny_mono (F.run X.A X.stack s H a us vs Q (WE Wx σ) hg hr I.env0 hb r h) fun r s' hq => by
    cases r with
    | error e => exact passAt tk σ pins H s e s' I hq
    | ok fl =>
      cases fl with
      | ret u => exact I.after hq
      | next => exact hq.elim
      | brk => exact hq.elim
      | cont => exact hq.elim
theorem run_call {k : Nat} {f : Addr} {fd : FuncData} {ps : List Str} {sp : Sp} {pins : List (Addr × Obj)} {σ : L2.St} {H : Hp} {s : Shared} {Q : VK} {us ws : List Value} {kw : List (Str × Value)} {vs : List V} (F : FnG X.prog X.w X.K X.mg X.base k f fd ps sp) (hg : X.A.guards = some []) (hr : Room k X.A)
    (tk : Takes X Wx) (I : Inv X pins σ H s) (hb : BindsTo s fd ⟨us, kw⟩ (ps.zip ws)) (r : Vals vs ws) (h : sp vs H Q (WE Wx σ)) : wpAny (model X.prog X.w) X.A (call (.ref f) us kw) (EP X pins σ Q) X.xe s :=
  wpAny_call (codeAny_mono (run_G F hg hr tk I hb r h) fun r s' hq => by
    cases r with
    | error e => exact hq
    | ok fl => cases fl <;> exact hq)
/-- what a def is known by: its address, promise, how arguments come to its parameters -/
structure Kn (G : PenK) (X : Cx) (k : Nat) (x : Str) (f : Addr) (fd : FuncData) (ps : List Str) (m : List SV → W D) : Prop where
  F : FnG X.prog X.w X.K X.mg X.base k f fd ps (spM G X.K X.mg ps.length m)
  mg : X.mg x = some (.ref f)
  kp : PySem.W.keepIn X.K (.ref f) = true
/-- f(a, b) -/
theorem e_call {k : Nat} {x : Str} {f : Addr} {fd : FuncData} {ps : List Str} {m : List SV → W D} {p pos : Pos} {e : Expr} {es : List Expr} {gs : Env → W (List SV)} (n : Kn G X k x f fd ps m) (hgd : X.A.guards = some []) (hr : Room k X.A) (tk : Takes X Wx) (hb : Binds X.K fd ps []) (ha : AV G X Wx (e :: es) gs)
    (hg : Gl X x := by rfl) (hdb : (x == ("__debug__" : Str)) = false := by decide) (he : starEach (e :: es) X.env = (false, eval e X.env) :: starEach es X.env := by rfl) (hpl : (backTo pos (starEach es X.env)).any (·.1) = false := by rfl) :
    E G X Wx (.Call (.Name x p) (e :: es) [] pos) (fun ρ => bnd (gs ρ) fun args => arity ps.length args (callM m args)) :=
  ⟨fun pins s σ H Q I ⟨c, ρ, k0, P, PX, I', q, hgl, hx⟩ => by
    refine wpAny_Call_Name_kw (ld_glob I hg n.mg ?_ hdb)
    refine PySem.W.callWith_K (h₀ := X.base) I.ok.mod.kin n.kp (thn (ha.run pos pins s σ H (fun vs H' => vs.length = ps.length ∧ spM G X.K X.mg ps.length m vs H' Q (WE Wx σ)) I ⟨c, ρ, k0, fun args k => arity ps.length args (callM m args) k P PX, PX, I', q, fun args k vs S' H' p g I2 r =>
      ⟨r.len.trans (arity_inv p).1, call_core I2 (arity_inv p).1 r (arity_inv p).2 (hgl.grow g) (hx.grow g)⟩, hx⟩) fun us s1 ⟨vs, H1, I1, r1, q1, q2⟩ => ⟨I1.kIn, ?_⟩) he hpl
    have hb1 := hb s1 us I1.kIn (by rw [List.append_nil, ← r1.length]; exact q1)
    rw [List.append_nil] at hb1
    exact run_call n.F hgd hr tk I1 hb1 r1 q2⟩
/-- how a call by names puts the values: for each parameter the place of its value among those given -/
def pick {α : Type} (order : List Nat) (l : List α) : List α := order.filterMap fun i => l[i]?
end
end PL

/-! The layer: built-ins over data. -/
namespace PL
open PySem PySem.Spec L2

/-! ### kinds -/
inductive Ty where
  | int | bool | str | tup | lst | dic
  deriving DecidableEq
def Ty.nm : Ty → String
  | .int => "int" | .bool => "bool" | .str => "str" | .tup => "tuple" | .lst => "list" | .dic => "dict"
def D.ty : D → String
  | .non => "NoneType" | .bl _ => "bool" | .int _ => "int" | .str _ => "str" | .lst _ => "list" | .tup _ => "tuple" | .dic _ => "dict" | .ins _ _ _ => "object"
def isT : Ty → D → Bool
  | .int, .int _ => true
  | .int, .bl _ => true
  | .bool, .bl _ => true
  | .str, .str _ => true
  | .tup, .tup _ => true
  | .lst, .lst _ => true
  | .dic, .dic _ => true
  | _, _ => false
def isA : List Ty → D → Bool
  | [], _ => false
  | t :: ts, d => isT t d || isA ts d
/-- what isinstance finds for each built-in class -/
def KitD (K : PySem.W.Frag) (cls : Value) (d : D) : Prop := ∀ t : Ty, PySem.W.kitOne K cls (.type t.nm) = some (isT t d)
theorem kit_D {K : PySem.W.Frag} (d : D) (hd : d.ty ≠ "object") : KitD K (.type d.ty) d := by
  intro t
  cases d <;> first | exact absurd rfl hd | (cases t <;> refine kit_ty ?_ <;> simp only [D.ty, Ty.nm, isT] <;> decide +kernel)
theorem kit_I {K : PySem.W.Frag} {c f : Str} {C : Addr} {x : D} (i : InsC K c f C) : KitD K (.ref C) (.ins c f x) := by
  intro t
  cases t <;> exact i.kit _ (by decide)
theorem kit_A {K : PySem.W.Frag} {cls : Value} {d : D} (h : KitD K cls d) : ∀ ts : List Ty, PySem.W.kitAny K cls (ts.map fun t => .type t.nm) = some (isA ts d)
  | [] => kitAny_nil
  | t :: ts => kitAny_cons (h t) (fun h1 => by show _ = some (isT t d || isA ts d); rw [h1, Bool.false_or]; exact kit_A h ts) fun h => by show (isT t d || isA ts d) = true; rw [h, Bool.true_or]

section
variable {G : PenK} {X : Cx} {Wx : WX}
theorem Rep.tyX {K : PySem.W.Frag} {S : Addr → Prop} {H : Hp} {d : D} {v : V} (r : Rep K S H d v) : ∃ cls, TyX K H v cls ∧ KitD K cls d := by
  cases d with
  | non => cases r; exact ⟨_, .base .non, kit_D .non (by simp [D.ty])⟩
  | bl b => cases r; exact ⟨_, .base (.bl b), kit_D (.bl b) (by simp [D.ty])⟩
  | int i => cases r; exact ⟨_, .base (.int i), kit_D (.int i) (by simp [D.ty])⟩
  | str x => obtain ⟨rfl, _⟩ := r; exact ⟨_, .base (.str x), kit_D (.str x) (by simp [D.ty])⟩
  | lst xs => obtain ⟨a, vs, rfl, r1, _⟩ := r; exact ⟨_, .base (.lst r1.2), kit_D (.lst xs) (by simp [D.ty])⟩
  | tup xs =>
    obtain ⟨a, vs, rfl, r1, _⟩ := r
    rcases r1 with ⟨_, o, h, _⟩ | ⟨o, its, n, h1, h2, _⟩
    · exact ⟨_, .fTuple h, kit_D (.tup xs) (by simp [D.ty])⟩
    · exact ⟨_, .kTuple h1 h2, kit_D (.tup xs) (by simp [D.ty])⟩
  | dic kvs =>
    obtain ⟨a, vs, rfl, r1, _⟩ := r
    rcases r1.2 with h | ⟨o, h⟩
    · exact ⟨_, .base (.dK h), kit_D (.dic kvs) (by simp [D.ty])⟩
    · exact ⟨_, .fDict h, kit_D (.dic kvs) (by simp [D.ty])⟩
  | ins cn f x =>
    obtain ⟨a, C, dx, w, rfl, i, ⟨_, ha⟩, _⟩ := r
    exact ⟨_, .base (.ins ha i.cls i.ca i.cn i.ct i.cm), kit_I i⟩
theorem two_a {e e2 : Expr} {te : TE} {t2 : TE} (h : PE X e te) (h2 : PE X e2 t2) (hp : starEach [e, e2] X.env = (false, eval e X.env) :: starEach [e2] X.env := by rfl) (hp2 : starEach [e2] X.env = (false, eval e2 X.env) :: starEach [] X.env := by rfl) :
    PA X [e, e2] (tCons te (tCons t2 tNil)) := pa_cons h (pa_cons h2 pa_nil hp2) hp
/-- isinstance(e, T) -/
theorem e_isi {x : Str} {p px pos : Pos} {e : Expr} {g : Env → W D} (t : Ty) (hm : X.mg "isinstance" = none) (hmx : X.mg x = none) (hbx : bootBuiltins x = some (.type t.nm)) (h : E G X Wx e g)
    (hg : Gl X "isinstance" := by rfl) (hgx : Gl X x := by rfl) (hn : x ≠ "__name__" := by decide) (hdb : (x == ("__debug__" : Str)) = false := by decide) (he : starEach [e, .Name x px] X.env = (false, eval e X.env) :: starEach [.Name x px] X.env := by rfl)
    (he2 : starEach [.Name x px] X.env = (false, eval (.Name x px) X.env) :: starEach [] X.env := by rfl) (hpl : (backTo pos (starEach [.Name x px] X.env)).any (·.1) = false := by rfl) :
    E G X Wx (.Call (.Name "isinstance" p) [e, .Name x px] [] pos) (fun ρ => bnd (g ρ) fun d => ret (.bl (isT t d))) :=
  weakE (pe_callB call_isi hg hm PyProof.Rows.boot_isinstance (two_a h (pe_bltn (v := .ty t.nm) hgx hmx hbx rfl hn hdb) he he2) (by decide) (by decide) he hpl) fun σ H Q ⟨c, ρ, n, P, PX, I, q, hg, hx⟩ => tE.bnd I q hx fun d k u S' H' p g I' hx' r =>
    let ⟨_, h1, h2⟩ := r.tyX
    ⟨u, .ty t.nm, _, _, isT t d, rfl, .ty _, h1, h2 t, hg (.bl (isT t d)) k _ S' H' p g I' rfl⟩
/-- a display of built-in classes -/
def Cl (X : Cx) (es : List Expr) (ts : List Ty) : Prop := PA X es (fun _ H Q => Q (ts.map fun t => .ty t.nm) H)
theorem cl_nil : Cl X [] [] := pa_nil
theorem cl_cons {x : Str} {px : Pos} {es : List Expr} {ts : List Ty} (t : Ty) (hmx : X.mg x = none) (hbx : bootBuiltins x = some (.type t.nm)) (h : Cl X es ts) (hgx : Gl X x := by rfl) (hn : x ≠ "__name__" := by decide) (hdb : (x == ("__debug__" : Str)) = false := by decide)
    (hp : starEach (.Name x px :: es) X.env = (false, eval (.Name x px) X.env) :: starEach es X.env := by rfl) : Cl X (.Name x px :: es) (t :: ts) :=
  weakA (pa_cons (pe_bltn (v := .ty t.nm) hgx hmx hbx rfl hn hdb) h hp) fun σ H Q q => q
theorem cls_all : ∀ ts : List Ty, Paired ClsV (ts.map fun t => V.ty t.nm) (ts.map fun t => Value.type t.nm)
  | [] => .nil
  | t :: ts => .cons (.ty _) (cls_all ts)
/-- isinstance(e, (T, U)) -/
theorem e_isis {p pt pos : Pos} {k0 : Nat} {e : Expr} {es : List Expr} {ts : List Ty} {g : Env → W D} (hm : X.mg "isinstance" = none) (hts : Cl X es ts) (h : E G X Wx e g) (hz : ts.length ≤ sizeLine := by decide)
    (hg : Gl X "isinstance" := by rfl) (he : starEach [e, .Tuple es k0 pt] X.env = (false, eval e X.env) :: starEach [.Tuple es k0 pt] X.env := by rfl)
    (he2 : starEach [.Tuple es k0 pt] X.env = (false, eval (.Tuple es k0 pt) X.env) :: starEach [] X.env := by rfl) (hpl : (backTo pos (starEach [.Tuple es k0 pt] X.env)).any (·.1) = false := by rfl) :
    E G X Wx (.Call (.Name "isinstance" p) [e, .Tuple es k0 pt] [] pos) (fun ρ => bnd (g ρ) fun d => ret (.bl (isA ts d))) :=
  weakE (pe_callB call_isiT hg hm PyProof.Rows.boot_isinstance (two_a h (pe_tup hts) he he2) (by decide) (by decide) he hpl) fun σ H Q ⟨c, ρ, n, P, PX, I, q, hg, hx⟩ => tE.bnd I q hx fun d k u S' H' p g I' hx' r => by
    refine ⟨by rw [List.length_map]; exact hz, fun a ha => ?_⟩
    obtain ⟨I2, g2⟩ := I'.laid (o := .tup (ts.map fun t => .ty t.nm)) ha
    obtain ⟨_, h1, h2⟩ := (Rep.grow g2 _ _ r).tyX
    refine ⟨u, a, ts.map fun t => .ty t.nm, _, ts.map fun t => .type t.nm, isA ts d, rfl, upd_same, ?_, h1, kit_A h2 ts, hg (.bl (isA ts d)) k _ _ _ p (g.trans g2) I2 rfl⟩
    exact cls_all ts

/-! ### one argument -/
theorem e_b1 {x : Str} {p pos : Pos} {id : String} {e : Expr} {r : V → Hp → VK → Prop} {r' : List V → Hp → VK → Prop} {g : Env → W D} {f : D → W D} (hm : X.mg x = none) (hv : bootBuiltins x = some (.builtin id)) (o : CallR X (.builtin id) r') (v : V1 G X Wx f r) (hr : ∀ x H Q, r x H Q → r' [x] H Q) (h : E G X Wx e g)
    (hg : Gl X x) (hn : x ≠ "__name__") (hdb : (x == ("__debug__" : Str)) = false) (he : starEach [e] X.env = (false, eval e X.env) :: starEach [] X.env) (hpl : (backTo pos (starEach [] X.env)).any (·.1) = false) : E G X Wx (.Call (.Name x p) [e] [] pos) (fun ρ => bnd (g ρ) f) :=
  e_callB hm hv o (va_one v hr) (a_cons h a_nil he) hg hn hdb he hpl
theorem e_t1 {x : Str} {p pos : Pos} {T : String} {e : Expr} {r : V → Hp → VK → Prop} {r' : List V → Hp → VK → Prop} {g : Env → W D} {f : D → W D} (hm : X.mg x = none) (hv : bootBuiltins x = some (.type T)) (o : CallR X (.type T) r') (v : V1 G X Wx f r) (hr : ∀ x H Q, r x H Q → r' [x] H Q) (h : E G X Wx e g)
    (hg : Gl X x) (hn : x ≠ "__name__") (hdb : (x == ("__debug__" : Str)) = false) (he : starEach [e] X.env = (false, eval e X.env) :: starEach [] X.env) (hpl : (backTo pos (starEach [] X.env)).any (·.1) = false) : E G X Wx (.Call (.Name x p) [e] [] pos) (fun ρ => bnd (g ρ) f) :=
  e_callT hm hv o (va_one v hr) (a_cons h a_nil he) hg hn hdb he hpl
def V1O (G : PenK) (X : Cx) (Wx : WX) (h : D → W (List D)) (r : V → Hp → VK → Prop) : Prop :=
  ∀ c σ ρ H n P PX d v Q, SI G X.K c σ H ρ n → Rep X.K c.S H d v → h d n P PX → GlO G X c σ ρ H P Q → OKx G X Wx c σ ρ H PX → r v H Q
theorem o_t1 {x : Str} {p pos : Pos} {T : String} {e : Expr} {r : V → Hp → VK → Prop} {r' : List V → Hp → VK → Prop} {g : Env → W D} {f : D → W (List D)} (hm : X.mg x = none) (hv : bootBuiltins x = some (.type T)) (o : CallR X (.type T) r') (v : V1O G X Wx f r) (hr : ∀ x H Q, r x H Q → r' [x] H Q) (h : E G X Wx e g)
    (hg : Gl X x) (hn : x ≠ "__name__") (hdb : (x == ("__debug__" : Str)) = false) (he : starEach [e] X.env = (false, eval e X.env) :: starEach [] X.env) (hpl : (backTo pos (starEach [] X.env)).any (·.1) = false) : EO G X Wx (.Call (.Name x p) [e] [] pos) (fun ρ => bnd (g ρ) f) :=
  weakE (pe_callTy o hg hm hv (a_cons h a_nil he) hn hdb he hpl) fun σ H Q ⟨c, ρ, n, P, PX, I, q, hg, hx⟩ => tAr.bnd (f := fun ds => match ds with | [d] => f d | _ => stuck) I q hx fun ds k vs S' H' p g I' hx' rs => by
    cases ds with
    | nil => exact p.elim
    | cons d ds =>
      cases ds with
      | cons _ _ => exact p.elim
      | nil =>
        obtain ⟨u, rfl, r1⟩ := rs.one_inv
        exact hr u H' Q (v _ σ ρ H' k P PX d u Q I' r1 p (hg.grow g) hx')
theorem e_len' {p pos : Pos} {e : Expr} {g : Env → W D} (hm : X.mg "len" = none) (h : E G X Wx e g) (hg : Gl X "len" := by rfl) (he : starEach [e] X.env = (false, eval e X.env) :: starEach [] X.env := by rfl) :
    E G X Wx (.Call (.Name "len" p) [e] [] pos) (fun ρ => bnd (g ρ) lenD) := e_len hm h hg he
def tupD : D → W D
  | .lst xs => ret (.tup xs)
  | .tup xs => ret (.tup xs)
  | _ => stuck
/-- tuple(e) -/
theorem e_tuple {p pos : Pos} {e : Expr} {g : Env → W D} (hm : X.mg "tuple" = none) (h : E G X Wx e g) (hg : Gl X "tuple" := by rfl) (he : starEach [e] X.env = (false, eval e X.env) :: starEach [] X.env := by rfl) :
    E G X Wx (.Call (.Name "tuple" p) [e] [] pos) (fun ρ => bnd (g ρ) tupD) :=
  e_t1 hm PyProof.Rows.boot_tuple call_tupleZ (r := fun x H Q => ∃ p ys, x = .ref p ∧ ((SqL X.K H p ys ∧ NewT H ys Q) ∨ (SqT X.K H p ys ∧ Q (.ref p) H))) (by
    intro c σ ρ H n P PX d v Q I r q hg hx
    cases d with
    | lst xs => obtain ⟨a, vs, rfl, r1, z, q1⟩ := r; exact ⟨a, vs, rfl, .inl ⟨r1.sq, fun l o hl hd => hg.new q I hl fun g2 => ⟨l, vs, rfl, .inl ⟨.inr rfl, o, upd_same, hd⟩, z, Reps.grow g2 _ _ q1⟩⟩⟩
    | tup xs => obtain ⟨a, vs, rfl, r1, z, q1⟩ := id r; exact ⟨a, vs, rfl, .inr ⟨r1.sq, hg.at q I r⟩⟩
    | _ => exact q.elim) (fun x H Q ⟨p, ys, e, h⟩ => ⟨p, ys, by rw [e], h⟩) h hg (by decide) (by decide) he (by rfl)
def bls : List D → Option (List Bool)
  | [] => some []
  | .bl b :: xs => (bls xs).map (b :: ·)
  | _ :: _ => none
theorem bls_vals {K : PySem.W.Frag} {S : Addr → Prop} {H : Hp} : ∀ {xs : List D} {bs : List Bool} {vs : List V}, bls xs = some bs → Reps K S H xs vs → vs = bs.map V.bl
  | [], bs, vs, h, r => by
    cases h
    exact r
  | x :: xs, bs, vs, h, r => by
    obtain ⟨v, ws, rfl, r1, r2⟩ := r
    cases x with
    | bl b =>
      obtain ⟨cs, e1, e2⟩ := Option.map_eq_some_iff.mp h
      cases e2
      cases r1
      rw [bls_vals e1 r2]
      rfl
    | _ => cases h
def allD : D → W D
  | .lst xs => match bls xs with
    | some bs => ret (.bl (bs.all id))
    | none => stuck
  | _ => stuck
theorem e_all {p pos : Pos} {e : Expr} {g : Env → W D} (hc : X.calm = true) (hm : X.mg "all" = none) (h : E G X Wx e g) (hg : Gl X "all" := by rfl) (he : starEach [e] X.env = (false, eval e X.env) :: starEach [] X.env := by rfl) :
    E G X Wx (.Call (.Name "all" p) [e] [] pos) (fun ρ => bnd (g ρ) allD) :=
  e_b1 hm PyProof.Rows.boot_all (cr_all hc) (r := fun x H Q => ∃ a bs, x = V.ref a ∧ SqL X.K H a (bs.map V.bl) ∧ Q (.bl (bs.all id)) H) (by
    intro c σ ρ H n P PX d v Q I r q hg hx
    cases d with
    | lst xs =>
      obtain ⟨a, vs, rfl, r1, z, q1⟩ := r
      have q : (match bls xs with | some bs => ret (.bl (bs.all id)) | none => stuck : W D) n P PX := q
      cases e : bls xs with
      | none => rw [e] at q; exact q.elim
      | some bs =>
        rw [e] at q
        have e2 := bls_vals e q1
        rw [e2] at r1
        exact ⟨a, bs, rfl, r1.sq, hg.at (d := .bl (bs.all id)) q I rfl⟩
    | _ => exact q.elim) (fun x H Q ⟨a, bs, e, h⟩ => ⟨a, bs, by rw [e], h⟩) h hg (by decide) (by decide) he (by rfl)
/-! ### in -/
def inFlat (neg : Bool) (x y : D) : W D := match y with
  | .lst ys => grd (x.sc = true ∧ ys.all D.sc = true) (ret (.bl (if neg then !(ys.any fun z => scEq z x) else ys.any fun z => scEq z x)))
  | .tup ys => grd (x.sc = true ∧ ys.all D.sc = true) (ret (.bl (if neg then !(ys.any fun z => scEq z x) else ys.any fun z => scEq z x)))
  | _ => stuck
theorem Rep.flat {K : PySem.W.Frag} {S : Addr → Prop} {H : Hp} {d : D} {v : V} (r : Rep K S H d v) (h : d.sc = true) : flatV v = true := by
  cases d with
  | non => cases r; rfl
  | bl _ => cases r; rfl
  | int _ => cases r; rfl
  | str _ => obtain ⟨rfl, _⟩ := r; rfl
  | _ => cases h
theorem Rep.eqs {K : PySem.W.Frag} {S : Addr → Prop} {H : Hp} {d e : D} {v w : V} (r : Rep K S H d v) (q : Rep K S H e w) (h : d.sc = true) (h2 : e.sc = true) : eqV v w = scEq d e := by
  cases d with
  | non => cases r; cases e with
    | non => cases q; rfl
    | bl _ => cases q; rfl
    | int _ => cases q; rfl
    | str _ => obtain ⟨rfl, _⟩ := q; rfl
    | _ => cases h2
  | bl _ => cases r; cases e with
    | non => cases q; rfl
    | bl _ => cases q; rfl
    | int _ => cases q; rfl
    | str _ => obtain ⟨rfl, _⟩ := q; rfl
    | _ => cases h2
  | int _ => cases r; cases e with
    | non => cases q; rfl
    | bl _ => cases q; rfl
    | int _ => cases q; rfl
    | str _ => obtain ⟨rfl, _⟩ := q; rfl
    | _ => cases h2
  | str _ => obtain ⟨rfl, _⟩ := r; cases e with
    | non => cases q; rfl
    | bl _ => cases q; rfl
    | int _ => cases q; rfl
    | str _ => obtain ⟨rfl, _⟩ := q; rfl
    | _ => cases h2
  | _ => cases h
theorem Reps.flat {K : PySem.W.Frag} {S : Addr → Prop} {H : Hp} {x : D} {v : V} (rx : Rep K S H x v) (hx : x.sc = true) : ∀ {ys : List D} {vs : List V}, Reps K S H ys vs → ys.all D.sc = true → vs.all flatV = true ∧ inV v vs = ys.any fun z => scEq z x
  | [], _, h, _ => by
    have e : _ = [] := h
    rw [e]
    exact ⟨rfl, rfl⟩
  | y :: ys, _, h, hs => by
    obtain ⟨w, ws, rfl, r1, r2⟩ := h
    rw [List.all_cons, Bool.and_eq_true] at hs
    obtain ⟨h1, h2⟩ := Reps.flat rx hx r2 hs.2
    refine ⟨by rw [List.all_cons, r1.flat hs.1, h1]; rfl, ?_⟩
    unfold inV at *
    rw [List.any_cons, List.any_cons, r1.eqs rx hs.1 hx, h2]
theorem v2_in (neg : Bool) : V2 G X Wx (inFlat neg) (rIn X.K neg) := by
  intro c σ ρ H n P PX d e v w Q I rd re q hg hx
  cases e with
  | lst ys =>
    obtain ⟨a, vs, rfl, r1, z, q1⟩ := re
    obtain ⟨⟨h1, h2⟩, q⟩ := q
    obtain ⟨h3, h4⟩ := Reps.flat rd h1 q1 h2
    exact ⟨a, vs, rfl, .inl r1.sq, rd.flat h1, h3, by rw [h4]; exact hg.at (d := .bl _) q I rfl⟩
  | tup ys =>
    obtain ⟨a, vs, rfl, r1, z, q1⟩ := re
    obtain ⟨⟨h1, h2⟩, q⟩ := q
    obtain ⟨h3, h4⟩ := Reps.flat rd h1 q1 h2
    exact ⟨a, vs, rfl, .inr r1.sq, rd.flat h1, h3, by rw [h4]; exact hg.at (d := .bl _) q I rfl⟩
  | _ => exact q.elim
theorem cm_in : Cm G X Wx .In (inFlat false) := ⟨_, op_in_seq, v2_in false⟩
/-- one sign in a text -/
def inStr (neg : Bool) (x y : D) : W D := match x, y with
  | .str a, .str b => match a.cps.toList with
    | [k] => ret (.bl (if neg then !decide (k ∈ b.cps.toList) else decide (k ∈ b.cps.toList)))
    | _ => stuck
  | _, _ => stuck
theorem one_sign {a : Str} {k : Nat} (h : a.cps.toList = [k]) : a = ⟨#[k]⟩ := by
  cases a with
  | mk c =>
    have : c = #[k] := by
      apply Array.toList_inj.mp
      exact h
    rw [this]
theorem inStr_inv {neg : Bool} {x y : D} {n : Nt} {P : D → Nt → Prop} {PX : Exc → Nt → Prop} (h : inStr neg x y n P PX) : ∃ k b, x = .str ⟨#[k]⟩ ∧ y = .str b ∧ P (.bl (if neg then !decide (k ∈ b.cps.toList) else decide (k ∈ b.cps.toList))) n := by
  cases x with
  | str a =>
    cases y with
    | str b =>
      have h : (match a.cps.toList with | [k] => ret (.bl (if neg then !decide (k ∈ b.cps.toList) else decide (k ∈ b.cps.toList))) | _ => stuck : W D) n P PX := h
      generalize e : a.cps.toList = l at h
      match l, h with
      | [k], h => exact ⟨k, b, by rw [one_sign e], rfl, h⟩
      | [], h => exact h.elim
      | _ :: _ :: _, h => exact h.elim
    | _ => exact h.elim
  | _ => exact h.elim
theorem cm_inS : Cm G X Wx .In (inStr false) := ⟨_, op_in_sign, by
  intro c σ ρ H n P PX d e v w Q I rd re q hg hx
  obtain ⟨k, b, rfl, rfl, q⟩ := inStr_inv q
  obtain ⟨rfl, _⟩ := rd
  obtain ⟨rfl, _⟩ := re
  exact ⟨k, b, rfl, rfl, hg.at (d := .bl _) q I rfl⟩⟩
/-! ### join -/
def txts : List D → Option (List Str)
  | [] => some []
  | .str b :: xs => (txts xs).map (b :: ·)
  | _ :: _ => none
theorem txts_vals {K : PySem.W.Frag} {S : Addr → Prop} {H : Hp} : ∀ {xs : List D} {bs : List Str} {vs : List V}, txts xs = some bs → Reps K S H xs vs → vs = bs.map V.str
  | [], bs, vs, h, r => by
    cases h
    exact r
  | x :: xs, bs, vs, h, r => by
    obtain ⟨v, ws, rfl, r1, r2⟩ := r
    cases x with
    | str b =>
      obtain ⟨cs, e1, e2⟩ := Option.map_eq_some_iff.mp h
      cases e2
      obtain ⟨rfl, _⟩ := r1
      rw [txts_vals e1 r2]
      rfl
    | _ => cases h
end
end PL

/-! The layer: repr, dicts among the data too. -/
namespace PL
open PySem PySem.Spec L2

/-- data off the heap, no dict among it sys.modules -/
inductive RX (h : Heap) : Value → PyData → Prop where
  | none : RX h .none .none
  | bool (b : Bool) : RX h (.bool b) (.bool b)
  | int (i : Int) (t : Tok) : RX h (.int i t) (.int i)
  | str (x : Str) (t : Tok) : RX h (.str x t) (.str x)
  | list {a : Addr} {o : Obj} {vs : Array Value} {n : Nat} {xs : List PyData} : h.get? a = some o → o.cls = .type "list" → o.data = .seq vs n → Paired (RX h) vs.toList xs → RX h (.ref a) (.list xs)
  | tuple {a : Addr} {o : Obj} {vs : Array Value} {n : Nat} {xs : List PyData} : h.get? a = some o → o.cls = .type "tuple" → o.data = .seq vs n → Paired (RX h) vs.toList xs → RX h (.ref a) (.tuple xs)
  | dict {a : Addr} {o : Obj} {es : Array DictEntry} {n : Nat} {kvs : List (PyData × PyData)} : h.get? a = some o → o.cls = .type "dict" → o.data = .dict es n → (a == sysModules) = false →
      Paired (RX h) (es.toList.map (·.key)) (kvs.map (·.1)) → Paired (RX h) (es.toList.map (·.val)) (kvs.map (·.2)) → RX h (.ref a) (.dict kvs)

section
variable {h : Heap} {P : Program} {w : World}
mutual
theorem RX.reads : ∀ (d : PyData) {v : Value}, RX h v d → ∃ as, Reads h v d as
  | .none, _, .none => ⟨_, .none⟩
  | .bool _, _, .bool b => ⟨_, .bool b⟩
  | .int _, _, .int i t => ⟨_, .int i t⟩
  | .str _, _, .str x t => ⟨_, .str x t⟩
  | .list xs, _, .list h1 h2 h3 h4 => let ⟨_, q⟩ := RX.readsAll xs h4; ⟨_, .list h1 h2 h3 q⟩
  | .tuple xs, _, .tuple h1 h2 h3 h4 => let ⟨_, q⟩ := RX.readsAll xs h4; ⟨_, .tuple h1 h2 h3 q⟩
  | .dict kvs, _, .dict h1 h2 h3 _ h5 h6 => let ⟨⟨_, q⟩, ⟨_, q2⟩⟩ := RX.readsKv kvs h5 h6; ⟨_, .dict h1 h2 h3 q q2⟩
theorem RX.readsAll : ∀ (ds : List PyData) {vs : List Value}, Paired (RX h) vs ds → ∃ as, ReadsAll h vs ds as
  | [], _, .nil => ⟨_, .nil⟩
  | d :: ds, _, .cons r t => let ⟨_, q⟩ := RX.reads d r; let ⟨_, q2⟩ := RX.readsAll ds t; ⟨_, .cons q q2⟩
theorem RX.readsKv : ∀ (ds : List (PyData × PyData)) {vs us : List Value}, Paired (RX h) vs (ds.map (·.1)) → Paired (RX h) us (ds.map (·.2)) → (∃ as, ReadsAll h vs (ds.map (·.1)) as) ∧ ∃ as, ReadsAll h us (ds.map (·.2)) as
  | [], _, _, .nil, .nil => ⟨⟨_, .nil⟩, _, .nil⟩
  | (a, b) :: ds, _, _, .cons r t, .cons r' t' =>
    let ⟨_, q⟩ := RX.reads a r
    let ⟨_, q'⟩ := RX.reads b r'
    let ⟨⟨_, q2⟩, ⟨_, q3⟩⟩ := RX.readsKv ds t t'
    ⟨⟨_, .cons q q2⟩, _, .cons q' q3⟩
end
/-- the text's length stays within the line -/
def Fit (d : PyData) : Prop := d.showable = true ∧ d.shown.length ≤ sizeLine
theorem Fit.list {xs : List PyData} (f : Fit (.list xs)) : ∀ x ∈ xs, Fit x := by
  obtain ⟨h1, h2⟩ := f
  have e : (listText (PyData.shownAll xs)).length ≤ sizeLine := by simpa only [PyData.shown] using h2
  have a1 : PyData.showableAll xs = true := by simpa [PyData.showable] using h1
  clear h1 h2
  have key : ∀ t ∈ PyData.shownAll xs, t.length ≤ sizeLine := fun t ht => Nat.le_trans (listText_mem_le ht) e
  clear e
  induction xs with
  | nil => exact fun x hx => nomatch hx
  | cons y ys ih =>
    rw [PyData.showableAll, Bool.and_eq_true] at a1
    intro x hx
    rcases List.mem_cons.mp hx with rfl | hx
    · exact ⟨a1.1, key _ (by rw [PyData.shownAll]; exact List.mem_cons_self)⟩
    · exact ih a1.2 (fun t ht => key t (by rw [PyData.shownAll]; exact List.mem_cons_of_mem _ ht)) x hx
theorem Fit.tuple {xs : List PyData} (f : Fit (.tuple xs)) : ∀ x ∈ xs, Fit x := by
  obtain ⟨h1, h2⟩ := f
  have e : (tupleText (PyData.shownAll xs)).length ≤ sizeLine := by simpa only [PyData.shown] using h2
  have a1 : PyData.showableAll xs = true := by simpa [PyData.showable] using h1
  clear h1 h2
  have key : ∀ t ∈ PyData.shownAll xs, t.length ≤ sizeLine := fun t ht => Nat.le_trans (tupleText_mem_le ht) e
  clear e
  induction xs with
  | nil => exact fun x hx => nomatch hx
  | cons y ys ih =>
    rw [PyData.showableAll, Bool.and_eq_true] at a1
    intro x hx
    rcases List.mem_cons.mp hx with rfl | hx
    · exact ⟨a1.1, key _ (by rw [PyData.shownAll]; exact List.mem_cons_self)⟩
    · exact ih a1.2 (fun t ht => key t (by rw [PyData.shownAll]; exact List.mem_cons_of_mem _ ht)) x hx
theorem Fit.dict {kvs : List (PyData × PyData)} (f : Fit (.dict kvs)) : (∀ x ∈ kvs, Fit x.1 ∧ Fit x.2) := by
  obtain ⟨h1, h2⟩ := f
  have e : (dictText (PyData.shownKv kvs)).length ≤ sizeLine := by simpa only [PyData.shown] using h2
  have a1 : PyData.showableKv kvs = true := by simpa [PyData.showable] using h1
  clear h1 h2
  have key : ∀ t ∈ PyData.shownKv kvs, t.length ≤ sizeLine := fun t ht => Nat.le_trans (dictText_mem_le ht) e
  clear e
  induction kvs with
  | nil => exact fun x hx => nomatch hx
  | cons y ys ih =>
    obtain ⟨a, b⟩ := y
    rw [PyData.showableKv, Bool.and_eq_true, Bool.and_eq_true] at a1
    intro x hx
    rcases List.mem_cons.mp hx with rfl | hx
    · have := key _ (by rw [PyData.shownKv]; exact List.mem_cons_self)
      rw [PySem.Str.length_append, PySem.Str.length_append] at this
      exact ⟨⟨a1.1.1, by show a.shown.length ≤ sizeLine; omega⟩, ⟨a1.1.2, by show b.shown.length ≤ sizeLine; omega⟩⟩
    · exact ih a1.2 (fun t ht => key t (by rw [PyData.shownKv]; exact List.mem_cons_of_mem _ ht)) x hx

mutual
theorem RX.shows : ∀ (d : PyData) {v : Value}, RX h v d → Fit d → ∃ bs, ReadAtMost h d.depth bs ∧ ReprK P w bs h d.depth v d.shown
  | .none, _, .none, _ => ⟨[], fun _ q => (nomatch q), by rw [PyData.shown]; exact .of_is ReprIs.none _ _ _⟩
  | .bool _, _, .bool b, _ => ⟨[], fun _ q => (nomatch q), by rw [PyData.shown]; exact .of_is (ReprIs.bool b) _ _ _⟩
  | .int _, _, .int i t, f => ⟨[], fun _ q => (nomatch q), by rw [PyData.shown]; exact .of_is (ReprIs.int t (by simpa [PyData.showable] using f.1)) _ _ _⟩
  | .str _, _, .str x t, f => ⟨[], fun _ q => (nomatch q), by rw [PyData.shown]; exact .of_is (ReprIs.str x t (by simpa only [PyData.shown] using f.2)) _ _ _⟩
  | .list xs, _, .list (a := a) (vs := vs) h1 h2 h3 h4, f => by
    obtain ⟨bs, hb, hk⟩ := RX.showsAll xs h4 f.list
    obtain ⟨as, r⟩ := RX.reads (.list xs) (.list h1 h2 h3 h4)
    have hn : a ∉ bs := not_mem_of_deeper r (by rw [PyData.depth]; omega) hb
    refine ⟨a :: bs, .cons r (by rw [PyData.depth]; omega) hb, ?_⟩
    rw [PyData.depth, PyData.shown]
    obtain ⟨l⟩ := vs
    cases l with
    | nil =>
      have h4 : Paired (RX h) [] xs := h4
      cases h4
      rw [PyData.shownAll, listText_nil]
      exact .listEmpty h1 h2 h3
    | cons y l => exact .list h1 h2 h3 hn (by simpa using hk.length_eq) fun i z e => hk.item i z (by simpa using e)
  | .tuple xs, _, .tuple (a := a) (vs := vs) h1 h2 h3 h4, f => by
    obtain ⟨bs, hb, hk⟩ := RX.showsAll xs h4 f.tuple
    obtain ⟨as, r⟩ := RX.reads (.tuple xs) (.tuple h1 h2 h3 h4)
    refine ⟨a :: bs, .cons r (by rw [PyData.depth]; omega) hb, ?_⟩
    rw [PyData.depth, PyData.shown]
    exact .tuple h1 h2 h3 (not_mem_of_deeper r (by rw [PyData.depth]; omega) hb) hk
  | .dict kvs, _, .dict (a := a) (es := es) h1 h2 h3 h4 h5 h6, f => by
    obtain ⟨b1, b2, hb1, k1, hb2, k2⟩ := RX.showsKv kvs h5 h6 f.dict
    obtain ⟨as, r⟩ := RX.reads (.dict kvs) (.dict h1 h2 h3 h4 h5 h6)
    have hb : ReadAtMost h (PyData.depthKv kvs) (b1 ++ b2) := .append hb1 hb2
    refine ⟨a :: (b1 ++ b2), .cons r (by rw [PyData.depth]; omega) hb, ?_⟩
    rw [PyData.depth, PyData.shown, PyData.shownKv_eq]
    exact .dict h1 h2 h3 h4 (not_mem_of_deeper r (by rw [PyData.depth]; omega) hb) (.of_two es.toList _ _ (k1.more_le (fun b q => List.mem_append_left _ q) (Nat.le_refl _)) (k2.more_le (fun b q => List.mem_append_right _ q) (Nat.le_refl _)))
theorem RX.showsAll : ∀ (ds : List PyData) {vs : List Value}, Paired (RX h) vs ds → (∀ d ∈ ds, Fit d) → ∃ bs, ReadAtMost h (PyData.depthAll ds) bs ∧ ReprAllK P w bs h (PyData.depthAll ds) vs (PyData.shownAll ds)
  | [], _, .nil, _ => ⟨[], fun _ q => (nomatch q), .nil⟩
  | d :: ds, _, .cons r t, f => by
    obtain ⟨b1, h1, k1⟩ := RX.shows d r (f d List.mem_cons_self)
    obtain ⟨b2, h2, k2⟩ := RX.showsAll ds t fun x q => f x (List.mem_cons_of_mem _ q)
    refine ⟨b1 ++ b2, ?_, ?_⟩
    · rw [PyData.depthAll]; exact .append (h1.mono (Nat.le_max_left _ _)) (h2.mono (Nat.le_max_right _ _))
    · rw [PyData.depthAll, PyData.shownAll]
      exact .cons ((k1.more fun b q => List.mem_append_left _ q).level_le (Nat.le_max_left _ _)) (k2.more_le (fun b q => List.mem_append_right _ q) (Nat.le_max_right _ _))
theorem RX.showsKv : ∀ (ds : List (PyData × PyData)) {vs us : List Value}, Paired (RX h) vs (ds.map (·.1)) → Paired (RX h) us (ds.map (·.2)) → (∀ d ∈ ds, Fit d.1 ∧ Fit d.2) →
    ∃ b1 b2, ReadAtMost h (PyData.depthKv ds) b1 ∧ ReprAllK P w b1 h (PyData.depthKv ds) vs (PyData.shownAll (ds.map (·.1))) ∧ ReadAtMost h (PyData.depthKv ds) b2 ∧ ReprAllK P w b2 h (PyData.depthKv ds) us (PyData.shownAll (ds.map (·.2)))
  | [], _, _, .nil, .nil, _ => ⟨[], [], fun _ q => (nomatch q), .nil, fun _ q => (nomatch q), .nil⟩
  | (x, y) :: ds, _, _, .cons r t, .cons r' t', f => by
    obtain ⟨a1, h1, k1⟩ := RX.shows x r (f _ List.mem_cons_self).1
    obtain ⟨a2, h2, k2⟩ := RX.shows y r' (f _ List.mem_cons_self).2
    obtain ⟨b1, b2, g1, j1, g2, j2⟩ := RX.showsKv ds t t' fun z q => f z (List.mem_cons_of_mem _ q)
    rw [PyData.depthKv, List.map_cons, List.map_cons, PyData.shownAll, PyData.shownAll]
    have m1 : PyData.depth x ≤ max (max (PyData.depth x) (PyData.depth y)) (PyData.depthKv ds) := by omega
    have m2 : PyData.depth y ≤ max (max (PyData.depth x) (PyData.depth y)) (PyData.depthKv ds) := by omega
    have m3 : PyData.depthKv ds ≤ max (max (PyData.depth x) (PyData.depth y)) (PyData.depthKv ds) := by omega
    exact ⟨a1 ++ b1, a2 ++ b2, .append (h1.mono m1) (g1.mono m3), .cons ((k1.more fun b q => List.mem_append_left _ q).level_le m1) (j1.more_le (fun b q => List.mem_append_right _ q) m3),
      .append (h2.mono m2) (g2.mono m3), .cons ((k2.more fun b q => List.mem_append_left _ q).level_le m2) (j2.more_le (fun b q => List.mem_append_right _ q) m3)⟩
end
/-- repr(x) -/
theorem RX.repr {d : PyData} {v : Value} {A : Around} {E : Value → Shared → Prop} {s : Shared} {Q : Value → Shared → Prop} (r : RX s.heap v d) (f : Fit d) (hg : A.guards = some []) (hu : A.units + (d.depth + 1) < cLine)
    (hQ : ∀ h' u tk, (∀ b o, s.heap.get? b = some o → h'.get? b = some o) → Q (.str d.shown u) { s with heap := h', toks := tk }) : wpAny (model P w) A (call (.builtin "repr") [v]) Q E s := by
  cases r with
  | none => exact PySem.P.repr_of_none (by have := hQ s.heap s.toks (s.toks + 1) (fun _ _ e => e); rwa [PyData.shown] at this)
  | bool b => exact PySem.P.repr_of_bool (by have := hQ s.heap s.toks (s.toks + 1) (fun _ _ e => e); rw [PyData.shown] at this; cases b <;> exact this)
  | int i t => exact PySem.P.repr_of_int (by simpa [PyData.showable] using f.1) (by have := hQ s.heap s.toks (s.toks + 1) (fun _ _ e => e); rwa [PyData.shown] at this)
  | str x t => exact PySem.P.repr_of_str (by have := hQ s.heap s.toks (s.toks + 1) (fun _ _ e => e); rwa [PyData.shown] at this) (by simpa only [PyData.shown] using f.2)
  | @list a o vs n xs h1 h2 h3 h4 =>
    obtain ⟨bs, hb, hk⟩ := RX.showsAll (P := P) (w := w) xs h4 f.list
    obtain ⟨as, r⟩ := RX.reads (.list xs) (.list h1 h2 h3 h4)
    have hn : a ∉ bs := not_mem_of_deeper r (by rw [PyData.depth]; omega) hb
    have hz : (listText (PyData.shownAll xs)).length ≤ sizeLine := by simpa only [PyData.shown] using f.2
    rw [PyData.depth] at hu
    rw [PyData.shown] at hQ
    refine call_repr_slot (by omega) (T := "list") ⟨o, h1, h2⟩ F.slot_list_repr.toG ?_
    obtain ⟨l⟩ := vs
    cases l with
    | nil =>
      have h4 : Paired (RX s.heap) [] xs := h4
      cases h4
      rw [PyData.shownAll, listText_nil] at hQ
      exact call_list_repr_empty ⟨o, h1, h2⟩ h1 h3 ⟨_, _, rfl, hQ s.heap _ _ fun _ _ e => e⟩
    | cons y l => exact call_list_reprK h1 h2 h3 hn (by simpa using hk.length_eq) (fun i z e => hk.item i z (by simpa using e)) hg (fun b _ => Clear.nil b) (by show A.units + 1 + _ < cLine; omega) (fun _ _ e => e) (fun h' u tk q => ⟨_, _, rfl, hQ h' u tk q⟩) hz
  | @tuple a o vs n xs h1 h2 h3 h4 =>
    obtain ⟨bs, hb, hk⟩ := RX.showsAll (P := P) (w := w) xs h4 f.tuple
    obtain ⟨as, r⟩ := RX.reads (.tuple xs) (.tuple h1 h2 h3 h4)
    have hn : a ∉ bs := not_mem_of_deeper r (by rw [PyData.depth]; omega) hb
    have hz : (tupleText (PyData.shownAll xs)).length ≤ sizeLine := by simpa only [PyData.shown] using f.2
    rw [PyData.depth] at hu
    rw [PyData.shown] at hQ
    exact call_repr_slot (by omega) (T := "tuple") ⟨o, h1, h2⟩ F.slot_tuple_repr (call_tuple_reprK h1 h2 h3 hn hk hg (fun b _ => Clear.nil b) (by show A.units + 1 + _ < cLine; omega) (fun _ _ e => e) (fun h' u tk q => ⟨_, _, rfl, hQ h' u tk q⟩) hz)
  | @dict a o es n kvs h1 h2 h3 h4 h5 h6 =>
    obtain ⟨b1, b2, hb1, k1, hb2, k2⟩ := RX.showsKv (P := P) (w := w) kvs h5 h6 f.dict
    obtain ⟨as, r⟩ := RX.reads (.dict kvs) (.dict h1 h2 h3 h4 h5 h6)
    have hb : ReadAtMost s.heap (PyData.depthKv kvs) (b1 ++ b2) := .append hb1 hb2
    have hz : (dictText (PyData.shownKv kvs)).length ≤ sizeLine := by simpa only [PyData.shown] using f.2
    rw [PyData.depth] at hu
    rw [PyData.shown, PyData.shownKv_eq] at hQ
    exact call_repr_slot (by omega) (T := "dict") ⟨o, h1, h2⟩ F.slot_dict_repr (call_dict_reprK h1 h2 h3 h4 (not_mem_of_deeper r (by rw [PyData.depth]; omega) hb)
      (.of_two es.toList _ _ (k1.more_le (fun b q => List.mem_append_left _ q) (Nat.le_refl _)) (k2.more_le (fun b q => List.mem_append_right _ q) (Nat.le_refl _))) hg (fun b _ => Clear.nil b) (by show A.units + 1 + _ < cLine; omega) (fun _ _ e => e) (fun h' u tk q => ⟨_, _, rfl, hQ h' u tk q⟩) (by rw [← PyData.shownKv_eq]; exact hz))
end

section
variable {X : Cx} {pins : List (Addr × Obj)} {σ : L2.St} {H : Hp} {s : Shared} {S : Addr → Prop}
theorem RX.int' {h : Heap} {v : Value} {i : Int} {t : Tok} (e : v = .int i t) : RX h v (.int i) := by rw [e]; exact .int i t
theorem RX.str' {h : Heap} {v : Value} {i : Str} {t : Tok} (e : v = .str i t) : RX h v (.str i) := by rw [e]; exact .str i t
theorem keys_rx {h : Heap} {K : PySem.W.Frag} : ∀ {kvs : List (Key × D)} {kws : List (Key × V)} {vs : List (Key × Value)} {es : List DictEntry}, RepK K S H kvs kws → L2.KV kws vs → Pairs (mixKind P w) es vs → Paired (RX h) (es.map (·.key)) ((pyk kvs).map (·.1))
  | [], _, _, _, r, k, p => by
    have e : _ = [] := r
    rw [e] at k
    cases k
    cases p
    exact .nil
  | (k, x) :: kvs, _, _, _, r, q, p => by
    obtain ⟨v, ws, rfl, _, r2⟩ := r
    cases q with
    | @cons _ b _ bs hk q =>
      cases p with
      | cons h1 h2 p =>
        have ih := keys_rx (h := h) r2 q p
        have e : k = b.1 := hk.1
        rw [← e] at h1
        rcases keyIs_shape h1 with ⟨i, t, e1, e2⟩ | ⟨y, t, e1, e2⟩
        · rw [e1]
          exact .cons (RX.int' e2) ih
        · rw [e1]
          exact .cons (RX.str' e2) ih
theorem ins_show {c f : Str} {x : D} : (py (.ins c f x)).showable = false := by
  unfold py PyData.showable PyData.showableKv PyData.showable
  have h : ¬ ((2 : Int) ^ 2000).natAbs.log2 < 1920 := by decide +kernel
  simp [h]
mutual
theorem Rep.rx (I : Inv X pins σ H s) : ∀ (d : D) (v : V) (u : Value), (py d).showable = true → Rep X.K S H d v → RelV v u → RX s.heap u (py d)
  | .non, v, u, _, r, q => by cases r; cases q; exact .none
  | .bl b, v, u, _, r, q => by cases r; cases q; exact .bool b
  | .int i, v, u, _, r, q => by cases r; obtain ⟨t, rfl⟩ := q; exact .int i t
  | .str x, v, u, _, r, q => by obtain ⟨rfl, _⟩ := r; obtain ⟨t, rfl⟩ := q; exact .str x t
  | .lst xs, v, u, hs, r, q => by
    obtain ⟨a, vs, rfl, r1, _, r2⟩ := r
    cases q
    obtain ⟨its, rv, ⟨⟨cls, dd, data, sl⟩, n, ho, hc, hdn, hdt⟩, _⟩ := I.list r1.sq
    exact .list ho hc hdt (Reps.rx I xs vs _ (by simpa [py, PyData.showable] using hs) r2 rv)
  | .tup xs, v, u, hs, r, q => by
    obtain ⟨a, vs, rfl, r1, _, r2⟩ := r
    cases q
    obtain ⟨its, rv, ⟨o, ho, hc, n, hdt⟩, _⟩ := I.tuple r1.sq
    exact .tuple ho hc hdt (Reps.rx I xs vs _ (by simpa [py, PyData.showable] using hs) r2 rv)
  | .ins c f x, v, u, hs, _, _ => absurd hs (by rw [ins_show]; exact Bool.false_ne_true)
  | .dic kvs, v, u, hsh, r, q => by
    obtain ⟨a, kws, rfl, ⟨_, r1⟩, r2⟩ := r
    cases q
    obtain ⟨_, hs, vs, kv, o, es, ep, ho, hx, hdt, _, hp, _⟩ : kws.length ≤ sizeLine ∧ (a == sysModules) = false ∧ ∃ vs, L2.KV kws vs ∧ s.heap.DictOf (mixKind X.prog X.w) a vs := dk_rd I.hok r1
    exact .dict ho hx.1 hdt hs (keys_rx r2 kv hp) (RepK.rx I kvs kws vs _ (by simpa [py, PyData.showable] using hsh) r2 kv hp)
theorem Reps.rx (I : Inv X pins σ H s) : ∀ (xs : List D) (vs : List V) (us : List Value), PyData.showableAll (pys xs) = true → Reps X.K S H xs vs → Vals vs us → Paired (RX s.heap) us (pys xs)
  | [], _, _, _, r, q => by
    have e : _ = [] := r
    rw [e] at q
    cases q
    exact .nil
  | x :: xs, _, _, hs, r, q => by
    obtain ⟨v, ws, rfl, r1, r2⟩ := r
    have hs : (py x).showable = true ∧ PyData.showableAll (pys xs) = true := by simpa [pys, PyData.showableAll] using hs
    cases q with
    | cons q1 q2 => exact .cons (Rep.rx I x v _ hs.1 r1 q1) (Reps.rx I xs ws _ hs.2 r2 q2)
theorem RepK.rx (I : Inv X pins σ H s) : ∀ (kvs : List (Key × D)) (kws : List (Key × V)) (vs : List (Key × Value)) (es : List DictEntry), PyData.showableKv (pyk kvs) = true → RepK X.K S H kvs kws → L2.KV kws vs → Pairs (mixKind X.prog X.w) es vs → Paired (RX s.heap) (es.map (·.val)) ((pyk kvs).map (·.2))
  | [], _, _, _, _, r, q, p => by
    have e : _ = [] := r
    rw [e] at q
    cases q
    cases p
    exact .nil
  | (k, x) :: kvs, _, _, _, hsh, r, q, p => by
    obtain ⟨v, ws, rfl, r1, r2⟩ := r
    have hsh2 : (py x).showable = true ∧ PyData.showableKv (pyk kvs) = true := by cases k <;> simp [pyk, PyData.showableKv] at hsh <;> exact ⟨by simp_all, by simp_all⟩
    cases q with
    | @cons _ b _ bs hk q =>
      cases p with
      | cons h1 h2 p =>
        have ih := RepK.rx I kvs ws bs _ hsh2.2 r2 q p
        have hd := Rep.rx I x v b.2 hsh2.1 r1 hk.2
        rw [← h2] at hd
        cases k with
        | inl i => exact .cons hd ih
        | inr i => exact .cons hd ih
end
end
end PL

/-! The layer: the source of draws [cells, turn, rest], and a draw. -/
namespace PL
open PySem PySem.Spec L2

/-- the list of the cells, the turn, the rest; at most n draws so far -/
def penG : PenK where
  inv := fun H a b n => a ≠ b ∧ ∃ (cs : List Int) (t g : Int), H a = some (.lst [.ref b, .int t, .int g]) ∧ H b = some (.lst (cs.map V.int)) ∧ cs.length ≤ 63 ∧ 0 ≤ t ∧ t ≤ n ∧ 0 ≤ g
  dep := fun ⟨h0, cs, t, g, h1, h2, h3⟩ e1 e2 => ⟨h0, cs, t, g, e1.trans h1, e2.trans h2, h3⟩
  there := fun ⟨_, cs, t, g, h1, h2, _⟩ => ⟨(by rw [h1]; exact fun z => (nomatch z)), (by rw [h2]; exact fun z => (nomatch z))⟩
  isL := fun ⟨_, cs, t, g, h1, h2, _⟩ => ⟨⟨_, h1⟩, _, h2⟩
/-- .. with tables of code objects, the module's names -/
def PenK.wt (G : PenK) (T : List (Addr × Str)) (mg : Str → Option Value) : PenK := { G with tab := T, mg := mg }
def drawMax : Nat := 4000000
/-- any number below b -/
def drawB (b : Int) : W D := fun n P _ => n.n < drawMax ∧ 0 < b ∧ b < 1000000000000000000000000000000000000000000000000000000000000 ∧ ∀ r k, 0 ≤ r → r < b → n.n ≤ k → k ≤ n.n + 1 → P (.int r) ⟨k, n.μ⟩
def drawM : List SV → W D
  | [.pen, .d (.int b)] => drawB b
  | _ => stuck

theorem drawM_inv {args : List SV} {n : Nt} {P : D → Nt → Prop} {PX : Exc → Nt → Prop} (h : drawM args n P PX) :
    ∃ b, args = [.pen, .d (.int b)] ∧ n.n < drawMax ∧ 0 < b ∧ b < 1000000000000000000000000000000000000000000000000000000000000 ∧ ∀ r k, 0 ≤ r → r < b → n.n ≤ k → k ≤ n.n + 1 → P (.int r) ⟨k, n.μ⟩ := by
  unfold drawM at h
  split at h
  · exact ⟨_, rfl, h⟩
  · exact h.elim
theorem u64 {A : Around} {k : Nat} (r : Room k A) : A.units + 64 < cLine := by
  have := r.un
  omega
theorem rd_ix {K : PySem.W.Frag} {σ : L2.St} {H : Hp} {Q : VK} {a : Addr} {L : List V} {i : Nat} (j : Nat) {v : V} (e : σ[i]? = some (some (.ref a))) (h : H a = some (.lst L)) (hv : L[j]? = some v) (q : Q v H) : tOp (rIxL K) (tVar i) (tC (.int j)) σ H Q :=
  ⟨.ref a, e, a, L, j, v, rfl, rfl, SqL.of h, atI_nat hv, q⟩
theorem wr_ix {σ : L2.St} {H : Hp} {Q : L2.St → Hp → Prop} {a : Addr} {L : List V} {i : Nat} (j : Nat) {v : V} (e : σ[i]? = some (some (.ref a))) (h : H a = some (.lst L)) (hj : j < L.length) (q : Q σ (upd H a (.lst (L.set j v)))) : gSub (tVar i) (tC (.int j)) rSetL v σ H Q :=
  ⟨.ref a, e, a, L, j, j, rfl, rfl, h, by unfold ixN; rw [if_pos (by omega), if_pos (by omega)]; rfl, q⟩
theorem sq_le {t : Int} {n : Int} (h0 : 0 ≤ t) (h1 : t ≤ n) : t * t ≤ n * n := Int.mul_le_mul h1 h1 h0 (Int.le_trans h0 h1)
theorem eqv_nil {cs : List Int} : PyData.eqv (.list (cs.map PyData.int)) (.list []) = cs.isEmpty := by
  cases cs <;> simp [PyData.eqv, PyData.eqvAll]
theorem shaped_ints (cs : List Int) : SeqAt.shaped (.list (cs.map PyData.int)) = true := by
  have h1 : ∀ l : List Int, PyData.canLayAll0 (l.map PyData.int) = true := fun l => by
    induction l with
    | nil => simp [PyData.canLayAll0]
    | cons x l ih => simp [PyData.canLayAll0, PyData.canLay0, ih]
  have h2 : ∀ l : List Int, PyData.depthAll (l.map PyData.int) = 0 := fun l => by
    induction l with
    | nil => simp [PyData.depthAll]
    | cons x l ih => simp [PyData.depthAll, PyData.depth, ih]
  simp [SeqAt.shaped, PyData.canLay0, PyData.depth, h1 cs, h2 cs]
theorem dp_ints {K : PySem.W.Frag} {H : Hp} : ∀ cs : List Int, DpAll K H (cs.map V.int) (cs.map PyData.int)
  | [] => .nil
  | c :: cs => .cons (.int c) (dp_ints cs)
theorem tab_eq {S : Addr → Prop} {H H2 : Hp} {a P : Addr} {q : Str} (sm : ∀ x o, x ≠ a → H x = some o → H2 x = some o) (t : TabI S H P q) (haL : ∃ xs, H a = some (.lst xs)) : H2 P = H P := by
  obtain ⟨ps, h1, _⟩ := t
  obtain ⟨xs, h2⟩ := haL
  rw [h1]
  exact sm P _ (fun z => by rw [z, h2] at h1; cases h1) h1
/-- the state of the source behind a change of its list alone -/
theorem After.draw {S : Addr → Prop} {H H2 : Hp} {a b : Addr} {cs : List Int} {t g : Int} {k : Nat} (hne : a ≠ b) (dom : ∀ x, S x → H x ≠ none) (ha : H a ≠ none) (nSa : ¬ S a) (nSb : ¬ S b) (hb : H b = some (.lst (cs.map V.int))) {T : List (Addr × Str)} {mg : Str → Option Value} (htb : ∀ q ∈ T, ¬ S q.1 ∧ TabI S H q.1 q.2) (haL : ∃ xs, H a = some (.lst xs)) {K : PySem.W.Frag} {n : Nt} (hm : MuOk (penG.wt T mg) K S H (some (a, b)) n)
    (sm : ∀ x o, x ≠ a → H x = some o → H2 x = some o) (h2 : H2 a = some (.lst [.ref b, .int t, .int g])) (h3 : cs.length ≤ 63) (ht : 0 ≤ t) (hk : t ≤ k) (hg : 0 ≤ g) : After (penG.wt T mg) K S S (some (a, b)) n H H2 ⟨k, n.μ⟩ := by
  have eqS : ∀ x, S x → H2 x = H x := fun x hx => by
    cases e : H x with
    | none => exact absurd e (dom x hx)
    | some o => exact sm x o (fun z => nSa (z ▸ hx)) e
  refine ⟨⟨fun _ h => h, eqS⟩, fun x hx => by rw [eqS x hx]; exact dom x hx, fun x hx => .inl hx, fun x o e hp _ _ => sm x o (hp (a, b) rfl).1 e, fun q hq => TabI.grow ⟨fun _ h => h, eqS⟩ (tab_eq sm (htb q hq).2 haL) (htb q hq).2, fun p e => ?_, fun x nd e => ?_, fun _ h => h, hm.2⟩
  · cases e
    exact ⟨⟨hne, cs, t, g, h2, sm b _ (Ne.symm hne) hb, h3, ht, hk, hg⟩, nSa, nSb⟩
  · obtain ⟨m1, m2, m3, m4⟩ := hm.1 x nd e
    obtain ⟨o, eo⟩ := Option.ne_none_iff_exists'.mp m1.there
    exact ⟨m1.grow ⟨fun _ h => h, eqS⟩ ((sm x o (m3 (a, b) rfl).1 eo).trans eo.symm), m2, .inl (by rw [e]; exact fun z => nomatch z)⟩
end PL

/-! The layer: a law's own def, its end. -/
namespace PL
open PySem PySem.Spec PyProof.Rows L2

/-- what the law's def promises: True, whatever the script -/
def spLaw (K : PySem.W.Frag) : Sp := fun vs H Q _ => ∃ (a : Addr) (ns : List Int), vs = [.ref a] ∧ SqL K H a (ns.map V.int) ∧ ns.length ≤ 63 ∧ ∀ H', Q (.bl true) H'

section
variable {P : Program} {w : World} {K : PySem.W.Frag} {mg mb : Str → Option Value}
/-- the law is called over a heap in which the script alone may be told -/
theorem law_core {k : Nat} {fa a : Addr} {fd : FuncData} {x : Str} {s : Shared} {vs : List Value} {ns : List Int} {H : Hp} (kin : K.In s.heap) (hns : s.heap.Ns mainGlobals mg) (hb : s.heap.Ns builtinsNs mb) (hbb : ∀ y : Str, y ≠ "__name__" → mb y = bootBuiltins y) (hlim : s.heap.NoLimit) (hgen : s.gens = #[])
    (ho : s.heap.get? a = some { cls := .type "list", data := .seq vs.toArray }) (hl : ns.length ≤ 63) (hr : Room k callerA) (F : ∀ base : Heap, K.In base → base.Ns mainGlobals mg → FnG P w K mg base k fa fd [x] (spLaw K)) (hbind : ∀ (s : Shared) (u : Value), BindsTo s fd ⟨[u], []⟩ [(x, u)])
    (only : ∀ b, H b ≠ none → b = a ∧ ∃ o u, H b = some (.frz o (.lst u))) (seq : SqL K H a (ns.map V.int)) (ok : HOk P w H s.heap) (notK : H a ≠ none → K.lookup a = none) :
    codeAny (model P w) callerA (.call (.ref fa) ⟨[.ref a], []⟩) (fun r s' => r = .ok (.ret (.bool true)) ∧ OldK s.heap s'.heap ∧ s'.os = s.os ∧ AllBare s'.gens) s := by
  have outside : ∀ {b o}, s.heap.get? b = some o → b ≠ a → (hidT s.heap H).get? b = some o := fun {b o} e n => hidT_get e (Classical.byContradiction fun z => n (only b z).1)
  have dictOut : ∀ {b : Addr} {m : Str → Option Value}, s.heap.Ns b m → (hidT s.heap H).Ns b m := fun {b m} ⟨o, es, ep, e, d, r⟩ => ⟨o, es, ep, outside e (fun z => by rw [z, ho] at e; cases e; cases d), d, r⟩
  have kin' : K.In (hidT s.heap H) := fun b o e => hidT_get (kin b o e) (Classical.byContradiction fun z => by
    have q := only b z
    rw [q.1] at z e
    rw [notK z] at e
    cases e)
  have mod : Mod K mg (hidT s.heap H) := ⟨kin', dictOut hns, ⟨mb, dictOut hb, hbb⟩, by obtain ⟨mc, h1, h2⟩ := hlim; exact ⟨mc, dictOut h1, h2⟩⟩
  have e0 : Env0 P w K mg (hidT s.heap H) callerA [] s H := ⟨rfl, mod, fun _ _ e => of_hidT e, Nat.le_of_eq (hidT_size _ _), trivial, fun b hb => absurd hb (by simp [frs]), ok, .of_eq hgen⟩
  refine codeAny_mono ((F _ kin' (dictOut hns)).run callerA [] s H ⟨[.ref a], []⟩ [.ref a] [.ref a] (fun v _ => v = .bl true) (fun _ _ _ => False) rfl hr e0 (hbind s (.ref a)) (.cons rfl .nil) ⟨a, ns, rfl, seq, hl, fun _ => rfl⟩) fun r s' h => ?_
  cases r with
  | error e => obtain ⟨_, _, _, _, _, _, _, _, _, _, _, _, z⟩ := h; exact z.elim
  | ok fl =>
    cases fl with
    | ret u =>
      obtain ⟨v, H', os, bare, un, hok', r', rfl⟩ := h
      obtain rfl : u = Value.bool true := r'
      refine ⟨rfl, OldK.of_keep fun b o e => ?_, os, bare⟩
      by_cases q : H b = none
      · exact un.keep b o e q (by simp [frs]) (by simp)
      · obtain ⟨_, o2, u, h2⟩ := only b q
        have e1 := (ok b _ h2).1
        rw [e] at e1
        cases e1
        exact (hok' b _ (un.frzs b o (.lst u) h2)).1
    | next => exact h.elim
    | brk => exact h.elim
    | cont => exact h.elim
theorem law_run {k : Nat} {fa a : Addr} {fd : FuncData} {x : Str} {s : Shared} {vs : List Value} {ns : List Int} (kin : K.In s.heap) (hns : s.heap.Ns mainGlobals mg) (hb : s.heap.Ns builtinsNs mb) (hbb : ∀ y : Str, y ≠ "__name__" → mb y = bootBuiltins y) (hlim : s.heap.NoLimit) (hgen : s.gens = #[])
    (ho : s.heap.get? a = some { cls := .type "list", data := .seq vs.toArray }) (hi : IntsAre vs ns) (hl : ns.length ≤ 63) (hr : Room k callerA) (F : ∀ base : Heap, K.In base → base.Ns mainGlobals mg → FnG P w K mg base k fa fd [x] (spLaw K)) (hbind : ∀ (s : Shared) (u : Value), BindsTo s fd ⟨[u], []⟩ [(x, u)]) :
    codeAny (model P w) callerA (.call (.ref fa) ⟨[.ref a], []⟩) (fun r s' => r = .ok (.ret (.bool true)) ∧ OldK s.heap s'.heap ∧ s'.os = s.os ∧ AllBare s'.gens) s := by
  have rv := vals_ints hi
  have big : ns.length ≤ sizeLine := Nat.le_trans hl (by rw [sizeLine_eq]; decide)
  by_cases hk : K.lookup a = none
  · refine law_core (H := fun b => if b = a then some (.frz { cls := .type "list", data := .seq vs.toArray } (.lst (ns.map V.int))) else none) kin hns hb hbb hlim hgen ho hl hr F hbind (fun b z => ?_) (.inl (.inr ⟨_, if_pos rfl⟩)) (fun b u z => ?_) fun _ => hk
    · by_cases e : b = a
      · exact ⟨e, _, _, if_pos e⟩
      · exact absurd (if_neg e) z
    · by_cases e : b = a
      · have z2 := (if_pos e).symm.trans z
        cases z2
        subst e
        exact ⟨ho, by rw [List.length_map]; exact big, vs, _, rv, ho⟩
      · have z2 := (if_neg e).symm.trans z
        cases z2
  · obtain ⟨o, ek⟩ := Option.ne_none_iff_exists'.mp hk
    have e := kin a o ek
    rw [ho] at e
    cases e
    exact law_core (H := fun _ => none) kin hns hb hbb hlim hgen ho hl hr F hbind (fun b z => absurd rfl z) (.inr ⟨_, vs.toArray, _, ek, rfl, rfl, rfl, by rw [List.size_toArray, hi.length]; exact big, by simpa using rv⟩) (fun b u z => nomatch z) fun z => absurd rfl z
/-- THE END of a law's row -/
theorem law_end {l : PySem.W.OpenLaw} {k : Nat} {q : Program} {loose : List Str} {XP : (Str → Option Value) → Heap → Prop} {YP : World → Heap → Prop} {d : DefRec} {Kf : Params → PySem.W.Frag} {x : Str} (hn : l.most = some 63) (hdf : d.params.defaults = []) (hr : Room k callerA) (hY : ∀ (w : World) (h : Heap), YP w h → (Kf w.params).In h)
    (F : ∀ (w : World) (mg : Str → Option Value) (fa : Addr) (h : Heap), (Kf w.params).In h → h.Ns mainGlobals mg → mg d.name = some (.ref fa) → ∃ fd : FuncData, (∀ (s : Shared) (u : Value), BindsTo s fd ⟨[u], []⟩ [(x, u)]) ∧
      ∀ base : Heap, (Kf w.params).In base → base.Ns mainGlobals mg → FnG l.prog w (Kf w.params) mg base k fa fd [x] (spLaw (Kf w.params))) :
    PySem.W.WalkO q loose XP YP l.row.toRowW d [] (fun f vs => PySem.call f vs) := by
  refine Att.attach_callB hn hdf fun w s₀ s₁ mg mb fa o pm cd doc a vs ns Gr Y ho hd hcd hmg hobj hi hl _ hg => ?_
  obtain ⟨fd, hb, hF⟩ := F w mg fa _ (hY w _ Y) Gr.T.g hmg
  exact law_run (hY w _ Y) Gr.T.g Gr.T.b Gr.T.builtins Gr.T.nolimit hg hobj hi hl hr hF hb
end

/-- a call of a def by its bare promise -/
theorem pe_callG {X : Cx} {Wx : WX} {k : Nat} {f : Addr} {fd : FuncData} {ps : List Str} {sp : Sp} {x : Str} {p pos : Pos} {e : Expr} {es : List Expr} {t : TA} (F : FnG X.prog X.w X.K X.mg X.base k f fd ps sp) (hgd : X.A.guards = some []) (hr : Room k X.A) (tk : Takes X Wx) (hg : Gl X x) (hm : X.mg x = some (.ref f)) (hk : PySem.W.keepIn X.K (.ref f) = true)
    (hb : Binds X.K fd ps []) (ha : PA X (e :: es) t) (hdb : (x == ("__debug__" : Str)) = false) (he : starEach (e :: es) X.env = (false, eval e X.env) :: starEach es X.env := by rfl) (hpl : (backTo pos (starEach es X.env)).any (·.1) = false := by rfl) :
    PE X (.Call (.Name x p) (e :: es) [] pos) (fun σ H Q => t σ H fun vs H1 => sp vs H1 Q (WE Wx σ)) :=
  ⟨fun pins s σ H Q I h => by
    refine wpAny_Call_Name_kw (ld_glob I hg hm ?_ hdb)
    refine PySem.W.callWith_K (h₀ := X.base) I.ok.mod.kin hk (thn (ha.run pos pins s σ H _ I h) fun us s1 ⟨vs, H1, I1, r1, q1⟩ => ⟨I1.kIn, ?_⟩) he hpl
    have hb1 := hb s1 us I1.kIn (by rw [List.append_nil, ← r1.length]; exact F.len _ _ _ _ q1)
    rw [List.append_nil] at hb1
    exact run_call F hgd hr tk I1 hb1 r1 q1⟩
end PL

/-! The layer: written dicts, calls by names. -/
namespace PL
open PySem PySem.Spec PyProof.Rows L2
section
variable {G : PenK} {X : Cx} {Wx : WX}
end
end PL

/-! The layer: enumerate of a list or a tuple; name = [..] on one line. -/
namespace PL
open PySem PySem.Spec PyProof.Rows L2

set_option maxHeartbeats 1000000 in
theorem new_enumB {v : Value} {o : Obj} {HH : Heap → Prop} (B : Begins v o HH) :
    Meets (Builtin.«enumerate.__new__» ⟨[.type "enumerate", v], []⟩) (fun _ R s => HH s.heap ∧ R (.ok (.ret (.ref (s.heap.push o).objs.size)))
      { s with heap := (s.heap.push o).push { cls := .type "enumerate", data := .fields #[.none, .bool false, .ref s.heap.objs.size, rawInt 0, .none, .none] } }) :=
  .of_wp fun prog w A R s hh => by
    obtain ⟨hp, ge, di, tk, oss⟩ := s
    obtain ⟨h1, hR⟩ := hh
    have hsub := sub_enumerate
    have q1 : ∀ {A2 : Around} {E2 : Value → Shared → Prop} {Q2 : Value → Shared → Prop}, Q2 (.ref hp.objs.size) ⟨hp.push o, ge, di, tk, oss⟩ → wpAny (model prog w) A2 (pyIter v) Q2 E2 ⟨hp, ge, di, tk, oss⟩ :=
      fun q => B.iter prog w _ _ ⟨hp, ge, di, tk, oss⟩ _ h1 q
    wp_walk using q1
    refine wpAny_stack_any fun stk => wpAny_pure ?_
    split
    · rename_i cl _ _ _ _ _
      cases (cl == Value.type "enumerate") <;>
      · wp_walk using q1
        exact ⟨_, rfl, hR⟩
    · wp_walk using q1
      exact ⟨_, rfl, hR⟩
theorem call_enumB {prog : Program} {w : World} {A : Around} {E : Value → Shared → Prop} {s : Shared} {v : Value} {o : Obj} {HH : Heap → Prop} {Q : Value → Shared → Prop} (B : Begins v o HH) (h1 : HH s.heap)
    (k : ∀ h', IsEnum h' (s.heap.objs.size + 1) s.heap.objs.size 0 .none → h'.get? s.heap.objs.size = some o → (∀ b x, s.heap.get? b = some x → h'.get? b = some x) → Q (.ref (s.heap.objs.size + 1)) { s with heap := h' }) :
    wpAny (model prog w) A (PySem.call (.type "enumerate") [v]) Q E s := by
  refine callType_new F.called_enumerate (by decide) (F.typeCall_enumerate_1 _) (F.newCall_enumerate_1 _) (fun ob => F.args_object_init_2 ob _) F.entry_enumerate_new (new_enumB B) ⟨h1, ?_⟩
  have hz : (s.heap.push o).objs.size = s.heap.objs.size + 1 := Heap.size_push ..
  show _ ∧ _
  rw [hz]
  have he : IsEnum ((s.heap.push o).push { cls := .type "enumerate", data := .fields #[.none, .bool false, .ref s.heap.objs.size, rawInt 0, .none, .none] }) (s.heap.objs.size + 1) s.heap.objs.size 0 .none := by
    have q := Heap.get?_push_size (s.heap.push o) (o := { cls := .type "enumerate", data := .fields #[.none, .bool false, .ref s.heap.objs.size, rawInt 0, .none, .none] }) rfl
    rw [hz] at q
    exact q
  exact ⟨⟨_, he, rfl⟩, k _ he (Heap.get?_push_of_some _ (Heap.get?_push_size _ B.free)) fun b x e => Heap.get?_push_of_some _ (Heap.get?_push_of_some _ e)⟩

/-- the tuple at a, each item in a new pair -/
def Iet (K : PySem.W.Frag) (a : Addr) : It :=
  ⟨fun i H => ∃ (xs : List V) (x : V), SqT K H a xs ∧ xs[i]? = some x, fun i H v H' => ∃ T x o, v = .ref T ∧ H T = none ∧ o.dict = none ∧ H' = upd H T (.frz o (.tup [.int (i : Nat), x])) ∧ ∀ xs, SqT K H a xs → xs[i]? = some x, fun i H => ∃ xs : List V, SqT K H a xs ∧ xs.length ≤ i⟩
/-- the list at a, each item in a new pair -/
def Iel (K : PySem.W.Frag) (a : Addr) : It :=
  ⟨fun i H => ∃ (xs : List V) (x : V), SqL K H a xs ∧ xs[i]? = some x, fun i H v H' => ∃ T x o, v = .ref T ∧ H T = none ∧ o.dict = none ∧ H' = upd H T (.frz o (.tup [.int (i : Nat), x])) ∧ ∀ xs, SqL K H a xs → xs[i]? = some x, fun i H => ∃ xs : List V, SqL K H a xs ∧ xs.length ≤ i⟩
theorem turn_enumL {P : Program} {w : World} {K : PySem.W.Frag} {elts : List Expr} {kk : Nat} {tpos : Pos} (a e it : Addr) :
    Turn P w K (.Tuple elts kk tpos) (Iel K a) [e, it] e (fun i h => (∃ old, IsEnum h e it ((i : Nat) : Int) old) ∧ h.IsListIter it a i ∧ e ≠ it) where
  mem := by simp
  obj := fun i h st b hb => by
    obtain ⟨⟨old, he⟩, ⟨o, ho, hc, hd⟩, _⟩ := st
    rcases (show b = e ∨ b = it by simpa using hb) with z | z
    · rw [z]
      exact ⟨_, he, fun v q => by cases q⟩
    · rw [z]
      exact ⟨o, ho, fun v q => by rw [hd] at q; cases q⟩
  keep := fun i h h' st k => let ⟨⟨old, he⟩, hi, hne⟩ := st; ⟨⟨old, k e (by simp) _ he⟩, hi.at fun o q => k it (by simp) o q, hne⟩
  item := by
    intro X hP hw hK hc i pins s σ H E I hf st hg
    subst hP hw hK
    obtain ⟨⟨old, he⟩, hit, hne⟩ := st
    obtain ⟨xs, x, hq, hx⟩ := hg
    obtain ⟨its, rv, p, hz⟩ := I.list hq
    obtain ⟨u, hu, ru⟩ := rv.get hx
    have hel : e < s.heap.objs.size := Heap.lt_size he
    have hil : it < s.heap.objs.size := by obtain ⟨_, q, _⟩ := hit; exact Heap.lt_size q
    refine wpAny_pyNext_enum_item he hit p.isList (x := u) (by simpa using hu) hne fun h' ho hit' hT hsz hk => ?_
    refine ⟨_, rfl, wpAny_letOwnedTupleGo_enum (s := { s with heap := h', toks := s.toks + 1 }) ho fun h'' he' sb => ?_⟩
    have hT2 : h''.get? s.heap.objs.size = some { cls := .type "tuple", data := .seq #[.int i s.toks, u] } := (sb.2 _ (Nat.ne_of_gt hel)).trans hT
    have new : ObjOk X.prog X.w (upd H s.heap.objs.size (.frz { cls := .type "tuple", data := .seq #[.int i s.toks, u] } (.tup [.int (i : Nat), x]))) h'' s.heap.objs.size (.frz { cls := .type "tuple", data := .seq #[.int i s.toks, u] } (.tup [.int (i : Nat), x])) :=
      ⟨hT2, by show 2 ≤ sizeLine; decide, [.int i s.toks, u], .cons ⟨_, rfl⟩ (.cons ru .nil), ⟨_, hT2, rfl, _, rfl⟩⟩
    have I1 : Inv X pins σ (upd H s.heap.objs.size (.frz { cls := .type "tuple", data := .seq #[.int i s.toks, u] } (.tup [.int (i : Nat), x]))) { s with heap := h'', toks := s.toks + 1 } :=
      I.turnedNew (ch := [e, it]) (fun b ob hb q => (sb.2 b (fun z => hb (by simp [z]))).trans (hk b ob (fun z => hb (by simp [z])) (fun z => hb (by simp [z])) q)) hf (Nat.le_refl _) new
    refine ⟨.ref s.heap.objs.size, _, I1, rfl, ⟨_, x, _, rfl, I.hok.fresh (Nat.le_refl _), rfl, rfl, fun ys hy => by rw [I.list_inj hy hq]; exact hx⟩, ⟨⟨u, ?_⟩, hit'.at fun o q => (sb.2 it (Ne.symm hne)).trans q, hne⟩, fun b hb => ?_⟩
    · have e1 : ((i + 1 : Nat) : Int) = (i : Int) + 1 := by omega
      rw [e1]
      exact he'
    · have hb2 : b < s.heap.objs.size := by
        rcases (show b = e ∨ b = it by simpa using hb) with z | z
        · exact z ▸ hel
        · exact z ▸ hil
      rw [upd_ne (Nat.ne_of_lt hb2)]
      exact (hf b hb).1
  done := by
    intro X hP hw hK hc i pins s σ H E I hf st hg
    subst hP hw hK
    obtain ⟨⟨old, he⟩, hit, hne⟩ := st
    obtain ⟨xs, hq, hx⟩ := hg
    obtain ⟨its, rv, p, hz⟩ := I.list hq
    obtain ⟨f0, f1, f2, f3, f4, f5⟩ := hf it (by simp)
    have hl := rv.length
    exact wpAny_pyNext_enum_end (I.ok.hd hc) he hit p.isList (by simp; omega) fun h' eb => ⟨rfl, I.turned (t' := s.toks) (fun b o hb q => eb b o hb q) f0 f1 f3 f4 f5⟩
  self := fun A i s Q E st h => let ⟨⟨_, he⟩, _⟩ := st; wpAny_pyIter_enum he h
theorem enum_not_tuple {h : Heap} {e it a : Addr} {i : Int} {old : Value} {its : Array Value} (he : IsEnum h e it i old) (ht : h.IsTuple a its) : e ≠ a := fun z => by
  subst z
  obtain ⟨o, e1, e2, n, e3⟩ := ht
  have he : h.get? e = some _ := he
  rw [he] at e1
  cases e1
  cases e3
theorem turn_enumT {P : Program} {w : World} {K : PySem.W.Frag} {elts : List Expr} {kk : Nat} {tpos : Pos} (a e it : Addr) :
    Turn P w K (.Tuple elts kk tpos) (Iet K a) [e, it] e (fun i h => (∃ old, IsEnum h e it ((i : Nat) : Int) old) ∧ h.IsTupleIter it a i ∧ e ≠ it ∧ a ≠ it) where
  mem := by simp
  obj := fun i h st b hb => by
    obtain ⟨⟨old, he⟩, ⟨o, ho, hc, hd⟩, _⟩ := st
    rcases (show b = e ∨ b = it by simpa using hb) with z | z
    · rw [z]
      exact ⟨_, he, fun v q => by cases q⟩
    · rw [z]
      exact ⟨o, ho, fun v q => by rw [hd] at q; cases q⟩
  keep := fun i h h' st k => let ⟨⟨old, he⟩, hi, hne⟩ := st; ⟨⟨old, k e (by simp) _ he⟩, hi.at fun o q => k it (by simp) o q, hne⟩
  item := by
    intro X hP hw hK hc i pins s σ H E I hf st hg
    subst hP hw hK
    obtain ⟨⟨old, he⟩, hit, hne, hai⟩ := st
    obtain ⟨xs, x, hq, hx⟩ := hg
    obtain ⟨its, rv, p, hz⟩ := I.tuple hq
    have p2 : s.heap.IsTuple a its.toArray := p
    have hel : e < s.heap.objs.size := Heap.lt_size he
    have hil : it < s.heap.objs.size := by obtain ⟨_, q, _⟩ := hit; exact Heap.lt_size q
    have hea := enum_not_tuple he p2
    have hlt : i < its.toArray.size := by
      obtain ⟨u, hu, _⟩ := rv.get hx
      have := (List.getElem?_eq_some_iff.mp hu).1
      simpa using this
    refine wpAny_pyNext_enum_itemD (Draws.tuple (prog := X.prog) (w := X.w) (A := X.A.in1) (I.ok.hd hc) it a hai its.toArray) he (show s.heap.IsTupleIter it a i ∧ s.heap.IsTuple a its.toArray from ⟨hit, p2⟩) hlt hne (by simp [hne, hea]) fun u h' tk hu ho hst hT hsz hk => ?_
    obtain ⟨u', hu', ru⟩ := rv.get hx
    obtain rfl : u' = u := by
      have hu : its.toArray[i]? = some u := hu
      rw [List.getElem?_toArray, hu'] at hu
      exact Option.some.inj hu
    refine ⟨_, rfl, wpAny_letOwnedTupleGo_enum (s := { s with heap := h', toks := tk + 1 }) ho fun h'' he' sb => ?_⟩
    have hT2 : h''.get? s.heap.objs.size = some { cls := .type "tuple", data := .seq #[.int i tk, u'] } := (sb.2 _ (Nat.ne_of_gt hel)).trans hT
    have new : ObjOk X.prog X.w (upd H s.heap.objs.size (.frz { cls := .type "tuple", data := .seq #[.int i tk, u'] } (.tup [.int (i : Nat), x]))) h'' s.heap.objs.size (.frz { cls := .type "tuple", data := .seq #[.int i tk, u'] } (.tup [.int (i : Nat), x])) :=
      ⟨hT2, by show 2 ≤ sizeLine; decide, [.int i tk, u'], .cons ⟨_, rfl⟩ (.cons ru .nil), ⟨_, hT2, rfl, _, rfl⟩⟩
    have I1 : Inv X pins σ (upd H s.heap.objs.size (.frz { cls := .type "tuple", data := .seq #[.int i tk, u'] } (.tup [.int (i : Nat), x]))) { s with heap := h'', toks := tk + 1 } :=
      I.turnedNew (ch := [e, it]) (fun b ob hb q => (sb.2 b (fun z => hb (by simp [z]))).trans (hk b ob (fun z => hb (by simp [z])) (fun z => hb (by simp [z])) q)) hf (Nat.le_refl _) new
    refine ⟨.ref s.heap.objs.size, _, I1, rfl, ⟨_, x, _, rfl, I.hok.fresh (Nat.le_refl _), rfl, rfl, fun ys hy => by rw [I.tuple_inj hy hq]; exact hx⟩, ⟨⟨u', ?_⟩, hst.1.at fun o q => (sb.2 it (Ne.symm hne)).trans q, hne, hai⟩, fun b hb => ?_⟩
    · have e1 : ((i + 1 : Nat) : Int) = (i : Int) + 1 := by omega
      rw [e1]
      exact he'
    · have hb2 : b < s.heap.objs.size := by
        rcases (show b = e ∨ b = it by simpa using hb) with z | z
        · exact z ▸ hel
        · exact z ▸ hil
      rw [upd_ne (Nat.ne_of_lt hb2)]
      exact (hf b hb).1
  done := by
    intro X hP hw hK hc i pins s σ H E I hf st hg
    subst hP hw hK
    obtain ⟨⟨old, he⟩, hit, hne, hai⟩ := st
    obtain ⟨xs, hq, hx⟩ := hg
    obtain ⟨its, rv, p, hz⟩ := I.tuple hq
    have p2 : s.heap.IsTuple a its.toArray := p
    obtain ⟨f0, f1, f2, f3, f4, f5⟩ := hf it (by simp)
    have hl := rv.length
    have hh : X.A.in1.handled = none := I.ok.hd hc
    have hd : Draws X.prog X.w X.A.in1 it [it, a] 0 (fun _ _ => True) (fun _ h => h.IsTupleIter it a i ∧ h.IsTuple a its.toArray) :=
      ⟨fun _ _ st => let ⟨o, ho, _⟩ := st.1; ⟨o, ho⟩, fun _ _ _ st hk => ⟨st.1.at fun o e => hk it (by simp) o e, st.2.at fun o e => hk a (by simp) o e⟩, fun _ _ _ _ hi => absurd hi (Nat.not_lt_zero _), fun s Q E st hE => wpAny_nextOf_tuple_end hh st.1 st.2 (by simp; omega) hE⟩
    exact wpAny_pyNext_enum_endD hd he ⟨hit, p2⟩ fun h' eb => ⟨rfl, I.turned (t' := s.toks) (fun b o hb q => eb b o hb q) f0 f1 f3 f4 f5⟩
  self := fun A i s Q E st h => let ⟨⟨_, he⟩, _⟩ := st; wpAny_pyIter_enum he h
theorem pi_enumU {X : Cx} {e : Expr} {te : TE} {p pos tpos : Pos} {elts : List Expr} {kk : Nat} (hg : Gl X "enumerate") (hm : X.mg "enumerate" = none) (he : PE X e te) (hs : starEach [e] X.env = [(false, eval e X.env)] := by rfl) :
    PI X (.Tuple elts kk tpos) (.Call (.Name "enumerate" p) [e] [] pos) (fun σ H R => te σ H fun v H1 => ∃ a xs, v = .ref a ∧ ((SqL X.K H1 a xs ∧ R (Iel X.K a) H1) ∨ (SqT X.K H1 a xs ∧ R (Iet X.K a) H1))) := by
  refine ⟨fun pins s σ H R I h => ?_⟩
  refine Call_ (ld_blt I hg hm boot_enumerate (PyProof.Rows.callWith_type1 (thn ((pa_cons he pa_nil hs).run pos pins s σ H (fun vs H1 => match vs with | [v] => ∃ a xs, v = .ref a ∧ ((SqL X.K H1 a xs ∧ R (Iel X.K a) H1) ∨ (SqT X.K H1 a xs ∧ R (Iet X.K a) H1)) | _ => False) I h) fun us s1 ⟨vs, H1, I1, r1, q1⟩ => ?_) hs rfl))
  obtain ⟨v, e0, a, xs, ex, q⟩ : ∃ v, vs = [v] ∧ ∃ a xs, v = .ref a ∧ ((SqL X.K H1 a xs ∧ R (Iel X.K a) H1) ∨ (SqT X.K H1 a xs ∧ R (Iet X.K a) H1)) := by
    match vs, q1 with
    | [v], q1 => exact ⟨v, rfl, q1⟩
  subst e0 ex
  cases r1 with
  | cons r rr =>
    cases rr
    cases r
    have fp2 : ∀ b ∈ [s1.heap.objs.size + 1, s1.heap.objs.size], FpOk X pins H1 b := fun b hb => by
      have hle : s1.heap.objs.size ≤ b := by
        rcases (show b = s1.heap.objs.size + 1 ∨ b = s1.heap.objs.size by simpa using hb) with z | z <;> omega
      exact I1.fpOk hle (I1.hok.fresh hle)
    rcases q with ⟨hq, q⟩ | ⟨hq, q⟩
    · obtain ⟨its, rv, p', hz⟩ := I1.list hq
      refine call_enumerate_list p'.isList fun h' he hit hsz hk => wpAny_pyIter_enum he ?_
      exact ⟨s1.heap.objs.size + 1, [s1.heap.objs.size + 1, s1.heap.objs.size], _, _, H1, rfl, I1.kept (t' := s1.toks) hk, turn_enumL a (s1.heap.objs.size + 1) s1.heap.objs.size, ⟨⟨.none, he⟩, hit, Nat.succ_ne_self _⟩, fp2, q⟩
    · obtain ⟨its, rv, p', hz⟩ := I1.tuple hq
      have p2 : s1.heap.IsTuple a its.toArray := p'
      have hla : a < s1.heap.objs.size := by obtain ⟨_, q, _⟩ := p2; exact Heap.lt_size q
      refine call_enumB (begins_tuple a its.toArray) p2 fun h' he hit hk => wpAny_pyIter_enum he ?_
      exact ⟨s1.heap.objs.size + 1, [s1.heap.objs.size + 1, s1.heap.objs.size], _, _, H1, rfl, I1.kept (t' := s1.toks) hk, turn_enumT a (s1.heap.objs.size + 1) s1.heap.objs.size, ⟨⟨.none, he⟩, ⟨_, hit, rfl, rfl⟩, Nat.succ_ne_self _, Nat.ne_of_lt hla⟩, fp2, q⟩
section
variable {G : PenK} {X : Cx} {Wx : WX}
def enumFrom (i : Nat) : List D → List D
  | [] => []
  | x :: xs => .tup [.int i, x] :: enumFrom (i + 1) xs
theorem enumFrom_len : ∀ (i : Nat) (xs : List D), (enumFrom i xs).length = xs.length
  | _, [] => rfl
  | i, x :: xs => by show _ + 1 = _ + 1; rw [enumFrom_len]
theorem enumFrom_get : ∀ (j i : Nat) (xs : List D), (enumFrom j xs)[i]? = (xs[i]?).map fun x => .tup [.int ((j + i : Nat) : Int), x]
  | _, _, [] => rfl
  | j, 0, x :: xs => rfl
  | j, i + 1, x :: xs => by
    show (enumFrom (j + 1) xs)[i]? = (xs[i]?).map _
    rw [enumFrom_get, show j + 1 + i = j + (i + 1) by omega]
def enumD : D → W (List D)
  | .lst xs => ret (enumFrom 0 xs)
  | .tup xs => ret (enumFrom 0 xs)
  | _ => stuck
theorem walks_enumL {K : PySem.W.Frag} {S : Addr → Prop} {H : Hp} {a : Addr} {xs : List D} {vs : List V} (h : RdL S H a vs) (r : Reps K S H xs vs) : Walks G K (Iel K a) S H (enumFrom 0 xs) := fun c ρ σ H2 n i g I => by
  have h2 := h.grow g
  have r2 := Reps.grow g _ _ r
  rw [enumFrom_len]
  refine ⟨fun hi => ?_, fun hi => ⟨vs, h2.sq, by rw [r2.len]; exact hi⟩⟩
  have hx : xs[i]? = some xs[i] := List.getElem?_eq_getElem hi
  obtain ⟨v, e1, e2⟩ := Reps.at r2 hx
  refine ⟨⟨vs, v, h2.sq, e1⟩, fun u H' ⟨T, x, o, eu, hT, od, eH, y⟩ => ?_⟩
  have ex := y vs h2.sq
  rw [e1] at ex
  cases ex
  subst eu eH
  obtain ⟨IS, gS⟩ := I.laid (o := .frz o (.tup [.int (i : Nat), v])) hT
  exact ⟨_, .tup [.int (i : Nat), xs[i]], gS, IS, by rw [enumFrom_get, hx]; simp, T, [.int (i : Nat), v], rfl,   .inl ⟨.inr rfl, o, upd_same, od⟩, (by show 2 ≤ sizeLine; decide), _, _, rfl, rfl, _, _, rfl, Rep.grow gS _ _ e2, rfl⟩
theorem walks_enumT {K : PySem.W.Frag} {S : Addr → Prop} {H : Hp} {a : Addr} {xs : List D} {vs : List V} (h : RdT K S H a vs) (r : Reps K S H xs vs) : Walks G K (Iet K a) S H (enumFrom 0 xs) := fun c ρ σ H2 n i g I => by
  have h2 := h.grow g
  have r2 := Reps.grow g _ _ r
  rw [enumFrom_len]
  refine ⟨fun hi => ?_, fun hi => ⟨vs, h2.sq, by rw [r2.len]; exact hi⟩⟩
  have hx : xs[i]? = some xs[i] := List.getElem?_eq_getElem hi
  obtain ⟨v, e1, e2⟩ := Reps.at r2 hx
  refine ⟨⟨vs, v, h2.sq, e1⟩, fun u H' ⟨T, x, o, eu, hT, od, eH, y⟩ => ?_⟩
  have ex := y vs h2.sq
  rw [e1] at ex
  cases ex
  subst eu eH
  obtain ⟨IS, gS⟩ := I.laid (o := .frz o (.tup [.int (i : Nat), v])) hT
  exact ⟨_, .tup [.int (i : Nat), xs[i]], gS, IS, by rw [enumFrom_get, hx]; simp, T, [.int (i : Nat), v], rfl,   .inl ⟨.inr rfl, o, upd_same, od⟩, (by show 2 ≤ sizeLine; decide), _, _, rfl, rfl, _, _, rfl, Rep.grow gS _ _ e2, rfl⟩
theorem w_enum {elts : List Expr} {kk : Nat} {tpos p pos : Pos} {e : Expr} {g : Env → W D} (hm : X.mg "enumerate" = none) (h : E G X Wx e g) (hg : Gl X "enumerate" := by rfl) (hs : starEach [e] X.env = [(false, eval e X.env)] := by rfl) :
    Wk G X Wx (.Tuple elts kk tpos) (.Call (.Name "enumerate" p) [e] [] pos) (fun ρ => bnd (g ρ) enumD) :=
  weakI (pi_enumU hg hm h hs) fun σ H R ⟨c, ρ, n, P, PX, I, q, hg, hx⟩ => tE.bnd I q hx fun d k v S' H' p g I' hx' r => by
    cases d with
    | lst xs =>
      obtain ⟨a, vs, rfl, r1, z, q1⟩ := r
      exact ⟨a, vs, rfl, .inl ⟨r1.sq, hg _ k S' H' _ p g I' (walks_enumL r1 q1)⟩⟩
    | tup xs =>
      obtain ⟨a, vs, rfl, r1, z, q1⟩ := r
      exact ⟨a, vs, rfl, .inr ⟨r1.sq, hg _ k S' H' _ p g I' (walks_enumT r1 q1)⟩⟩
    | _ => exact p.elim
end
end PL

/-! What a mirror does, in plain words: Gen m c Q says that m ends with a value under Q, after at most c draws. -/
namespace PL
open PySem PySem.Spec L2
section
variable {α β : Type}
theorem bnd_ret (a : α) (f : α → W β) : bnd (ret a) f = f a := rfl
theorem bnd_bnd {γ : Type} (m : W α) (f : α → W β) (g : β → W γ) : bnd (bnd m f) g = bnd m fun a => bnd (f a) g := rfl
theorem grd_pos {p : Prop} (h : p) (m : W α) : grd p m = m := by
  funext n P X
  exact propext ⟨fun q => q.2, fun q => ⟨h, q⟩⟩
theorem few_pos {xs : List D} (h : xs.length ≤ sizeLine) (m : W α) : few xs m = m := grd_pos h m
theorem quiet_ret (a : α) : quiet (ret a) = ret a := rfl
def Gen (m : W α) (c : Nat) (Q : α → Prop) : Prop := ∀ (n : Nt) (P : α → Nt → Prop) (PX : Exc → Nt → Prop), n.n + c ≤ drawMax → (∀ a k, Q a → n.n ≤ k → k ≤ n.n + c → P a ⟨k, n.μ⟩) → m n P PX
theorem Gen.ret {a : α} {Q : α → Prop} (h : Q a) : Gen (PL.ret a) 0 Q := fun n P PX _ k => k a n.n h (Nat.le_refl _) (Nat.le_refl _)
theorem Gen.bnd {m : W α} {f : α → W β} {c d : Nat} {Q : α → Prop} {R : β → Prop} (h : Gen m c Q) (hf : ∀ a, Q a → Gen (f a) d R) : Gen (PL.bnd m f) (c + d) R := fun n P PX hn k =>
  h n _ PX (by omega) fun a j q h1 h2 => hf a q ⟨j, n.μ⟩ P PX (by show j + d ≤ _; omega) fun b i r h3 h4 => k b i r (Nat.le_trans h1 h3) (by have h4 : i ≤ j + d := h4; omega)
theorem Gen.le {m : W α} {c d : Nat} {Q R : α → Prop} (h : Gen m c Q) (hc : c ≤ d) (hq : ∀ a, Q a → R a) : Gen m d R := fun n P PX hn k => h n P PX (by omega) fun a j q h1 h2 => k a j (hq a q) h1 (by omega)
theorem Gen.to {m : W α} {c : Nat} {Q R : α → Prop} (h : Gen m c Q) (hq : ∀ a, Q a → R a) : Gen m c R := h.le (Nat.le_refl _) hq
theorem Gen.up {m : W α} {c d : Nat} {Q : α → Prop} (h : Gen m c Q) (hc : c ≤ d) : Gen m d Q := h.le hc fun _ q => q
theorem Gen.grd {p : Prop} {m : W α} {c : Nat} {Q : α → Prop} (hp : p) (h : Gen m c Q) : Gen (PL.grd p m) c Q := by rw [grd_pos hp]; exact h
theorem Gen.few {xs : List D} {m : W α} {c : Nat} {Q : α → Prop} (hp : xs.length ≤ sizeLine) (h : Gen m c Q) : Gen (PL.few xs m) c Q := Gen.grd hp h
theorem Gen.quiet {m : W α} {c : Nat} {Q : α → Prop} (h : Gen m c Q) : Gen (PL.quiet m) c Q := fun n P PX hn k => h n P _ hn k
/-- a value, no draws -/
def Is (m : W α) (a : α) : Prop := Gen m 0 (· = a)
theorem Is.ret (a : α) : Is (PL.ret a) a := Gen.ret rfl
theorem Is.of {m : W α} {a : α} (h : m = PL.ret a) : Is m a := by rw [h]; exact Is.ret a
theorem Is.bnd {m : W α} {f : α → W β} {a : α} {c : Nat} {R : β → Prop} (h : Is m a) (hf : Gen (f a) c R) : Gen (PL.bnd m f) c R := (Gen.bnd h fun b e => by rw [e]; exact hf).up (by omega)
theorem Gen.draw {b : Int} (h0 : 0 < b) (h1 : b < 1000000000000000000000000000000000000000000000000000000000000) : Gen (drawB b) 1 fun d => ∃ r : Nat, d = .int r ∧ (r : Int) < b := fun n P PX hn k =>
  ⟨by omega, h0, h1, fun r j q1 q2 q3 q4 => k _ j ⟨r.toNat, by rw [Int.toNat_of_nonneg q1], by omega⟩ q3 q4⟩
theorem Gen.drawM {b : Int} (h0 : 0 < b) (h1 : b < 1000000000000000000000000000000000000000000000000000000000000) : Gen (PL.drawM [.pen, .d (.int b)]) 1 fun d => ∃ r : Nat, d = .int r ∧ (r : Int) < b := Gen.draw h0 h1
end
theorem Gen.call {m : List SV → W D} {args : List SV} {c : Nat} {Q : D → Prop} (h : Gen (m args) c Q) (hc : c ≤ drawMax := by decide) : Gen (callM m args) c Q := fun n P PX hn k => by
  unfold callM
  split
  · exact h n P PX hn k
  · exact h ⟨0, n.μ⟩ _ _ (by show 0 + c ≤ _; omega) fun a j q _ _ => k a n.n q (Nat.le_refl _) (Nat.le_add_right _ _)
theorem Gen.andThen {m : W Out} {k : Env → W Out} {c d : Nat} {R : Env → Prop} {Q : D → Prop} (h : Gen m c fun o => (∃ ρ, o = .nx ρ ∧ R ρ) ∨ ∃ d ρ, o = .rt d ρ ∧ Q d) (hk : ∀ ρ, R ρ → Gen (k ρ) d fun o => ∃ d ρ, o = .rt d ρ ∧ Q d) :
    Gen (PL.andThen m k) (c + d) fun o => ∃ d ρ, o = .rt d ρ ∧ Q d :=
  Gen.bnd h fun o z => by
    rcases z with ⟨ρ, e, q⟩ | ⟨x, ρ, e, q⟩
    · rw [e]
      exact hk ρ q
    · rw [e]
      exact (Gen.ret ⟨x, ρ, rfl, q⟩).up (Nat.zero_le _)
/-! ### rows for simp -/
theorem nm0 {x : D} {ρ : Env} : nm (.d x :: ρ) 0 = PL.ret x := rfl
theorem tru_bl (b : Bool) : tru (.bl b) = PL.ret b := rfl
theorem blB_bl (b : Bool) : blB (.bl b) = PL.ret b := rfl
theorem leD_int (i j : Int) : leD (.int i) (.int j) = PL.ret (.bl (decide (i ≤ j))) := rfl
theorem items_tup (xs : List D) : items (.tup xs) = PL.ret xs := rfl
theorem eqD_int (i j : Int) : eqD (.int i) (.int j) = PL.ret (.bl (decide (i = j))) := by
  unfold eqD
  rw [grd_pos (.inl ⟨rfl, rfl⟩)]
  simp only [py, PyData.eqv]
  rfl
theorem ix_l {xs : List D} {i : Int} {x : D} (h : atI xs i = some x) : ixD (.lst xs) (.int i) = PL.ret x := by
  show (match atI xs i with | some x => PL.ret x | none => stuck : W D) = _
  rw [h]
theorem ix_t {xs : List D} {i : Int} {x : D} (h : atI xs i = some x) : ixD (.tup xs) (.int i) = PL.ret x := by
  show (match atI xs i with | some x => PL.ret x | none => stuck : W D) = _
  rw [h]
theorem ix_s {s : Str} {i : Int} {k : Nat} (h : atI s.cps.toList i = some k) : ixD (.str s) (.int i) = PL.ret (.str ⟨#[k]⟩) := by
  show (match atI s.cps.toList i with | some k => PL.ret (.str ⟨#[k]⟩) | none => stuck : W D) = _
  rw [h]
theorem ix0 (x : D) (xs : List D) : ixD (.tup (x :: xs)) (.int 0) = PL.ret x := ix_t (atI_nat (j := 0) rfl)
theorem ix1 (a x : D) (xs : List D) : ixD (.tup (a :: x :: xs)) (.int 1) = PL.ret x := ix_t (atI_nat (j := 1) rfl)
theorem ix2 (a b x : D) (xs : List D) : ixD (.tup (a :: b :: x :: xs)) (.int 2) = PL.ret x := ix_t (atI_nat (j := 2) rfl)
theorem ix_atT {xs : List D} {i : Nat} (h : i < xs.length) : ixD (.tup xs) (.int i) = PL.ret xs[i] := ix_t (atI_nat (List.getElem?_eq_getElem h))
/-- what may be shown, built from short parts -/
inductive Ok : D → Prop
  | non : Ok .non
  | bl (b : Bool) : Ok (.bl b)
  | int {i : Int} (h : i.natAbs < 10 ^ 61) : Ok (.int i)
  | str {s : Str} (h : okD (.str s) = true) : Ok (.str s)
  | lst {xs : List D} (h : ∀ x ∈ xs, Ok x) : Ok (.lst xs)
  | tup {xs : List D} (h : ∀ x ∈ xs, Ok x) : Ok (.tup xs)
  | dic0 : Ok (.dic [])
  | dic1 {s : Str} {i : Int} (h : okD (.str s) = true) (h2 : i.natAbs < 10 ^ 61) : Ok (.dic [(.inr s, .int i)])
theorem str_short {s : Str} (h : okD (.str s) = true) (B : Nat) : (py (.str s)).leavesShort B = true := by
  simp only [okD, SeqAt.shaped, py, PyData.canLay0, PyData.strOk, Bool.and_eq_true] at h
  simp only [py, PyData.leavesShort, List.all_eq_true, decide_eq_true_eq]
  have q := h.1
  rw [← Array.all_toList, List.all_eq_true] at q
  intro c hc
  have := of_decide_eq_true (q c hc)
  have e : (16 : Nat) ^ 8 = 4294967296 := by decide
  omega
theorem int_short {i : Int} (h : i.natAbs < 10 ^ 61) : (py (.int i)).leavesShort 62 = true := by
  simp only [py, PyData.leavesShort, PyData.shown]
  apply decide_eq_true
  rw [ofString_length]
  exact int_text_length_le10 (by decide) h
theorem int_showable {i : Int} (h : i.natAbs < 10 ^ 61) : (py (.int i)).showable = true := by
  simp only [py, PyData.showable, decide_eq_true_eq]
  refine Nat.lt_of_le_of_lt (?_ : i.natAbs.log2 ≤ 300) (by decide)
  by_cases hz : i.natAbs = 0
  · rw [hz]; decide
  · exact Nat.le_of_lt_succ ((Nat.log2_lt hz).mpr (Nat.lt_trans h (by decide +kernel)))
theorem pys_short : ∀ {xs : List D}, (∀ x ∈ xs, (py x).leavesShort 62 = true ∧ (py x).showable = true) → PyData.leavesShortAll 62 (pys xs) = true ∧ PyData.showableAll (pys xs) = true
  | [], _ => ⟨by simp [pys, PyData.leavesShortAll], by simp [pys, PyData.showableAll]⟩
  | x :: xs, h => by
    have ih := pys_short (xs := xs) fun y hy => h y (List.mem_cons_of_mem _ hy)
    have q := h x List.mem_cons_self
    exact ⟨by simp [pys, PyData.leavesShortAll, q.1, ih.1], by simp [pys, PyData.showableAll, q.2, ih.2]⟩
theorem Ok.short : ∀ {x : D}, Ok x → (py x).leavesShort 62 = true ∧ (py x).showable = true := by
  intro x h
  induction h with
  | non => exact ⟨by simp [py, PyData.leavesShort], by simp [py, PyData.showable]⟩
  | bl b => exact ⟨by simp [py, PyData.leavesShort], by simp [py, PyData.showable]⟩
  | int h => exact ⟨int_short h, int_showable h⟩
  | str h => exact ⟨str_short h _, by simp [py, PyData.showable]⟩
  | lst _ ih => exact ⟨by simp [py, PyData.leavesShort, (pys_short ih).1], by simp [py, PyData.showable, (pys_short ih).2]⟩
  | tup _ ih => exact ⟨by simp [py, PyData.leavesShort, (pys_short ih).1], by simp [py, PyData.showable, (pys_short ih).2]⟩
  | dic0 => exact ⟨by simp [py, pyk, PyData.leavesShort, PyData.leavesShortKv], by simp [py, pyk, PyData.showable, PyData.showableKv]⟩
  | dic1 h h2 =>
    have a := str_short h 62
    have b := int_short h2
    have c := int_showable h2
    refine ⟨?_, ?_⟩
    · show (PyData.leavesShort 62 (py (.str _)) && PyData.leavesShort 62 (py (.int _)) && true) = true
      rw [a, b]
      rfl
    · show (true && PyData.showable (py (.int _)) && true) = true
      rw [c]
      rfl
theorem Gen.take {b : Int} (h0 : 0 < b := by decide) (h1 : b < 1000000000000000000000000000000000000000000000000000000000000 := by decide) : Gen (callM PL.drawM [.pen, .d (.int b)]) 1 fun d => ∃ r : Nat, d = .int r ∧ (r : Int) < b := Gen.call (Gen.drawM h0 h1)
theorem fewS {α : Type} {xs : List D} (h : xs.length ≤ 1000) (m : W α) : few xs m = m := few_pos (by rw [sizeLine_eq]; omega) m
theorem Gen.tk {β : Type} {b : Int} {f : D → W β} {C : Nat} {Q : β → Prop} (c : Nat) (k : ∀ r : Nat, (r : Int) < b → Gen (f (.int r)) c Q) (hc : c + 1 ≤ C := by decide) (h0 : 0 < b := by decide) (h1 : b < 1000000000000000000000000000000000000000000000000000000000000 := by decide) : Gen (PL.bnd (callM PL.drawM [.pen, .d (.int b)]) f) C Q :=
  (Gen.bnd (Gen.take h0 h1) fun d ⟨r, e, hr⟩ => by rw [e]; exact k r hr).up (by omega)
theorem Gen.ty {α β : Type} {m : W α} {f : α → W β} {C : Nat} {R : α → Prop} {Q : β → Prop} (c d : Nat) (h : Gen m c R) (k : ∀ a, R a → Gen (f a) d Q) (hc : c + d ≤ C := by decide) : Gen (PL.bnd m f) C Q := (Gen.bnd h k).up hc
theorem okD_small {s : Str} (h : ∀ k ∈ s.cps.toList, k < 1114112) : okD (.str s) = true := by
  simp only [okD, SeqAt.shaped, py, PyData.canLay0, PyData.strOk, PyData.depth, Bool.and_eq_true]
  refine ⟨?_, by decide⟩
  rw [← Array.all_toList, List.all_eq_true]
  exact fun k hk => decide_eq_true (h k hk)
end PL

/-! Statements over a state whose names are told one by one: a block's mirror speaks of values alone. -/
namespace PL
open PySem PySem.Spec L2 PyProof.Rows

/-- how a block's ends are carried on -/
structure Enz (γ : Type) where
  nx : Env → W γ → Prop
  rt : D → W γ → Prop
  bk : Env → W γ → Prop
  ct : Env → W γ → Prop
inductive Step (J γ : Type) where
  | go (j : J) | bk (j : J) | out (g : γ)
def forK {J γ : Type} (k f : J → W γ) : Step J γ → W γ
  | .go j => f j
  | .bk j => k j
  | .out g => ret g
def forT {α J γ : Type} (bd : α → J → W (Step J γ)) (k : J → W γ) : List α → J → W γ
  | [], j => k j
  | x :: xs, j => bnd (bd x j) (forK k fun j' => forT bd k xs j')
/-- some names forgotten -/
def Le (ρ ρ' : Env) : Prop := ρ'.length = ρ.length ∧ ∀ i : Nat, ρ'[i]? = ρ[i]? ∨ ρ'[i]? = some .un
theorem Le.refl {ρ : Env} : Le ρ ρ := ⟨rfl, fun _ => .inl rfl⟩
theorem Le.nil : Le [] [] := .refl
theorem Le.same {s : SV} {ρ ρ' : Env} (h : Le ρ ρ') : Le (s :: ρ) (s :: ρ') := ⟨by simp [h.1], fun i => match i with
  | 0 => .inl rfl
  | i + 1 => h.2 i⟩
theorem Le.un {s : SV} {ρ ρ' : Env} (h : Le ρ ρ') : Le (s :: ρ) (.un :: ρ') := ⟨by simp [h.1], fun i => match i with
  | 0 => .inr rfl
  | i + 1 => h.2 i⟩

section
variable {G : PenK} {K : PySem.W.Frag} {c : C} {σ : L2.St} {ρ ρ' : Env} {H : Hp} {n : Nt}
theorem SI.le (I : SI G K c σ H ρ n) (h : Le ρ ρ') : SI G K c σ H ρ' n := by
  have key : ∀ (i : Nat) (sv : SV), ρ'[i]? = some sv → sv = .un ∨ ρ[i]? = some sv := fun i sv e => by
    rcases h.2 i with q | q
    · exact .inr (q ▸ e)
    · rw [q] at e; exact .inl (Option.some.inj e).symm
  refine ⟨h.1.trans I.len, fun i sv e => ?_, fun i sv a e ho => ?_, fun i j sv sv' a hn e e' ho ho' => ?_, I.dom, I.fr, I.pen, I.no, I.tab, I.mu, I.mu0, I.mz⟩
  · rcases key i sv e with rfl | q
    · trivial
    · exact I.slots i sv q
  · rcases key i sv e with rfl | q
    · cases ho
    · exact I.own i sv a q ho
  · rcases key i sv e with rfl | q
    · cases ho
    · rcases key j sv' e' with rfl | q'
      · cases ho'
      · exact I.apart i j sv sv' a hn q q' ho ho'
end

section
variable (G : PenK) (X : Cx) (Wx : WX) {γ : Type}
def GlE (En : Enz γ) (c : C) (H : Hp) (P : γ → Nt → Prop) (PX : Exc → Nt → Prop) (Dn : Ends) : Prop :=
  (∀ ρ' m k σ' S' H', En.nx ρ' m → m k P PX → Grow c.S S' H H' → SI G X.K (c.to S') σ' H' ρ' k → Dn.nx σ' H') ∧
  (∀ d m k v σ' ρ' S' H', En.rt d m → m k P PX → Grow c.S S' H H' → SI G X.K (c.to S') σ' H' ρ' k → Rep X.K S' H' d v → Dn.rt v H') ∧
  (∀ ρ' m k σ' S' H', En.bk ρ' m → m k P PX → Grow c.S S' H H' → SI G X.K (c.to S') σ' H' ρ' k → Dn.bk σ' H') ∧
  ∀ ρ' m k σ' S' H', En.ct ρ' m → m k P PX → Grow c.S S' H H' → SI G X.K (c.to S') σ' H' ρ' k → Dn.ct σ' H'
def tG (ρ : Env) (En : Enz γ) (m : W γ) : TS := fun Dn σ H => ∃ c n P PX, SI G X.K c σ H ρ n ∧ m n P PX ∧ GlE G X En c H P PX Dn ∧ OKs G X Wx c H PX
def SG (ss : List Stmt) (ρ : Env) (En : Enz γ) (m : W γ) : Prop := PSs X ss (tG G X Wx ρ En m)
end
section
variable {G : PenK} {X : Cx} {Wx : WX} {γ : Type} {En : Enz γ} {ρ ρ' : Env} {rest : List Stmt} {m : W γ}
theorem GlE.grow {c : C} {H H' : Hp} {P : γ → Nt → Prop} {PX : Exc → Nt → Prop} {Dn : Ends} {S' : Addr → Prop} (h : GlE G X En c H P PX Dn) (g : Grow c.S S' H H') : GlE G X En (c.to S') H' P PX Dn :=
  ⟨fun ρ m k σ S2 H2 e p g2 I => h.1 ρ m k σ S2 H2 e p (g.trans g2) I, fun d m k v σ ρ S2 H2 e p g2 I r => h.2.1 d m k v σ ρ S2 H2 e p (g.trans g2) I r,
    fun ρ m k σ S2 H2 e p g2 I => h.2.2.1 ρ m k σ S2 H2 e p (g.trans g2) I, fun ρ m k σ S2 H2 e p g2 I => h.2.2.2 ρ m k σ S2 H2 e p (g.trans g2) I⟩
theorem pss_un {α : Type} {t : α → TS} (h : ∀ a, PSs X rest (t a)) : PSs X rest (fun Dn σ H => ∃ a, t a Dn σ H) := ⟨fun pins s σ H D I ⟨a, q⟩ => (h a).run pins s σ H D I q⟩
theorem pss_no : PSs X rest (fun _ _ _ => False) := ⟨fun _ _ _ _ _ _ q => q.elim⟩
theorem inj_eq {α β : Type} {e : α → β} (inj : ∀ a b, e a = e b → a = b) (k : α → Nt → Prop) : (fun a j => ∃ b, e a = e b ∧ k b j) = k := by
  funext a j
  exact propext ⟨fun ⟨b, h, q⟩ => (inj a b h) ▸ q, fun q => ⟨a, rfl, q⟩⟩
theorem sg_eq {ss : List Stmt} {m m' : W γ} (h : SG G X Wx ss ρ En m) (e : m = m') : SG G X Wx ss ρ En m' := e ▸ h
theorem sg_nil (h : En.nx ρ m) : SG G X Wx [] ρ En m := weakSs pss_nil fun Dn σ H ⟨c, n, P, PX, I, q, hg, hx⟩ => hg.1 ρ m n σ c.S H h q .refl I
/-- a statement behind which one goes on -/
theorem sg_stmt {s : Stmt} {g : Env → W Out} {α : Type} {m0 : W α} {e : α → Env} {k : α → W γ} (h : St1 G X Wx s g) (hg : g ρ = bnd m0 fun a => ret (.nx (e a))) (inj : ∀ a b, e a = e b → a = b) (hr : ∀ a, SG G X Wx rest (e a) En (k a)) :
    SG G X Wx (s :: rest) ρ En (bnd m0 k) :=
  weakSs (pss_cons h (pss_un hr)) fun Dn σ H ⟨c, n, P, PX, I, q, hgl, hx⟩ => by
    refine ⟨c, ρ, n, fun o j => ∃ a, o = .nx (e a) ∧ k a j P PX, PX, I, ?_, ⟨fun ρ' j σ' S' H' ⟨a, ea, p⟩ g I' => ?_, fun d j v σ' ρ' S' H' ⟨a, ea, p⟩ _ _ _ => (nomatch ea), fun ρ' j σ' S' H' ⟨a, ea, p⟩ _ _ => (nomatch ea), fun ρ' j σ' S' H' ⟨a, ea, p⟩ _ _ => (nomatch ea)⟩, hx⟩
    · rw [hg]
      have ee := inj_eq (e := fun a => Out.nx (e a)) (fun a b z => inj a b (Out.nx.inj z)) fun a j => k a j P PX
      show m0 n (fun a j => ∃ b, Out.nx (e a) = Out.nx (e b) ∧ k b j P PX) PX
      rw [ee]
      exact q
    · cases ea
      exact ⟨a, c.to S', j, P, PX, I', p, hgl.grow g, hx.grow g⟩
theorem sg_ret {e : Expr} {pos : Pos} {g : Env → W D} {α : Type} {m0 : W α} {f : α → D} {r : α → W γ} (h : E G X Wx e g) (hg : g (bor ρ) = bnd m0 fun a => ret (f a)) (inj : ∀ a b, f a = f b → a = b) (hr : ∀ a, En.rt (f a) (r a)) :
    SG G X Wx (.Return (some e) pos :: rest) ρ En (bnd m0 r) :=
  weakSs (pss_cons (ps_ret h) pss_no) fun Dn σ H ⟨c, n, P, PX, I, q, hgl, hx⟩ => by
    obtain ⟨I2, g2⟩ := I.lend
    refine ⟨_, bor ρ, n, fun d j => ∃ a, d = f a ∧ r a j P PX, PX, I2, ?_, fun d j v S' H' ⟨a, ea, p⟩ g I' rv => ?_, (hx.grow g2).x⟩
    · rw [hg]
      show m0 n (fun a j => ∃ b, f a = f b ∧ r b j P PX) PX
      rw [inj_eq inj fun a j => r a j P PX]
      exact q
    · subst ea
      exact hgl.2.1 (f a) (r a) j v σ _ S' H' (hr a) p (g2.trans g) I' rv
/-- the ends of a block behind which a rest stands -/
def Enz.push (En : Enz γ) (G : PenK) (X : Cx) (Wx : WX) (rest : List Stmt) : Enz γ := { En with nx := fun ρ m => SG G X Wx rest ρ En m }
theorem sg_push {En : Enz γ} (h : SG G X Wx rest ρ En m) : SG G X Wx [] ρ (En.push G X Wx rest) m := sg_nil h
theorem sg_if {t : Expr} {a b : List Stmt} {pos : Pos} {gt : Env → W Bool} {mt : W Bool} {ma mb : W γ} (ht : T G X Wx t gt) (hg : gt (bor ρ) = mt) (ha : SG G X Wx a ρ (En.push G X Wx rest) ma) (hb : SG G X Wx b ρ (En.push G X Wx rest) mb) :
    SG G X Wx (.If t a b pos :: rest) ρ En (bnd mt fun x => if x = true then ma else mb) :=
  weakSs (pss_cons (ps_if ht ha hb) (pss_un fun z : { z : Env × W γ // SG G X Wx rest z.1 En z.2 } => z.2)) fun Dn σ H ⟨c, n, P, PX, I, q, hgl, hx⟩ => by
    obtain ⟨I2, g2⟩ := I.lend
    subst hg
    refine tT.bnd (f := fun x => if x = true then ma else mb) I2 q (hx.grow g2).x fun b k S' H' p g I' hx' => ?_
    obtain ⟨I3, g3⟩ := I.back g I'
    have hgl3 := hgl.grow g3
    have hx3 := hx.grow g3
    have hE : GlE G X (En.push G X Wx rest) (c.to fun a => S' a ∧ ¬ ownS ρ σ a) H' P PX { Dn with nx := fun σ H => ∃ z : { z : Env × W γ // SG G X Wx rest z.1 En z.2 }, tG G X Wx z.1.1 En z.1.2 Dn σ H } :=
      ⟨fun ρ' m k σ' S' H' e p g I => ⟨⟨(ρ', m), e⟩, _, k, P, PX, I, p, hgl3.grow g, hx3.grow g⟩, hgl3.2.1, hgl3.2.2.1, hgl3.2.2.2⟩
    cases b with
    | true => exact iteT ⟨_, k, P, PX, I3, p, hE, hx3⟩
    | false => exact iteF ⟨_, k, P, PX, I3, p, hE, hx3⟩
theorem sg_ifP {t : Expr} {a b : List Stmt} {pos : Pos} {gt : Env → W Bool} {x : Bool} {ma mb : W γ} (ht : T G X Wx t gt) (hg : gt (bor ρ) = ret x) (ha : SG G X Wx a ρ (En.push G X Wx rest) ma) (hb : SG G X Wx b ρ (En.push G X Wx rest) mb) :
    SG G X Wx (.If t a b pos :: rest) ρ En (if x = true then ma else mb) := sg_if ht hg ha hb
theorem sg_retP {e : Expr} {pos : Pos} {g : Env → W D} {d : D} (h : E G X Wx e g) (hg : g (bor ρ) = ret d) (hr : En.rt d m) : SG G X Wx (.Return (some e) pos :: rest) ρ En m :=
  sg_ret (m0 := ret ()) (f := fun _ => d) (r := fun _ => m) h hg (fun _ _ _ => rfl) fun _ => hr
theorem sg_retD {e : Expr} {pos : Pos} {g : Env → W D} {m0 : W D} {r : D → W γ} (h : E G X Wx e g) (hg : g (bor ρ) = m0) (hr : ∀ d, En.rt d (r d)) : SG G X Wx (.Return (some e) pos :: rest) ρ En (bnd m0 r) :=
  sg_ret (f := fun d => d) h (hg.trans rfl) (fun _ _ h => h) hr
/-- the ends of a loop's body -/
def Enz.loop {J : Type} (En : Enz γ) (emb : J → Env) : Enz (Step J γ) where
  nx := fun ρ m => ∃ j, m = ret (.go j) ∧ Le ρ (emb j)
  ct := fun ρ m => ∃ j, m = ret (.go j) ∧ Le ρ (emb j)
  bk := fun ρ m => ∃ j, m = ret (.bk j) ∧ Le ρ (emb j)
  rt := fun d m => ∃ mg, En.rt d mg ∧ m = bnd mg fun g => ret (.out g)
theorem map_inj {α β : Type} {f : α → β} (inj : ∀ a b, f a = f b → a = b) : ∀ xs ys : List α, xs.map f = ys.map f → xs = ys
  | [], [], _ => rfl
  | [], _ :: _, h => by simp at h
  | _ :: _, [], h => by simp at h
  | x :: xs, y :: ys, h => by
    rw [List.map_cons, List.map_cons] at h
    obtain ⟨h1, h2⟩ := List.cons.inj h
    rw [inj x y h1, map_inj inj xs ys h2]
theorem sg_for {J α β : Type} {tg it : Expr} {body : List Stmt} {pos : Pos} {t : Tg} {gi : Env → W (List D)} {mw : W (List β)} {tt : List β → List D} {f : β → D} {emb : J → Env} {j0 : J} {mu : β → W α} {e : α → J → Env} {bb : α → J → W (Step J γ)} {kk : J → W γ}
    (hp : PassesOwn (model X.prog X.w) X.A X.env X.xe) (hc : X.calm = true) (hi : Wk G X Wx tg it gi) (ht : PTg X tg t) (hgi : gi ρ = bnd mw fun ys => ret (tt ys)) (htt : ∀ ys, tt ys = ys.map f) (hf : ∀ a b, f a = f b → a = b) (hl : Le ρ (emb j0)) (hs : ∀ x j, setT t (f x) (emb j) = bnd (mu x) fun a => ret (e a j)) (inj : ∀ j a b, e a j = e b j → a = b)
    (hb : ∀ a j, SG G X Wx body (e a j) (En.loop emb) (bb a j)) (hr : ∀ j, SG G X Wx rest (emb j) En (kk j)) (hfs : ∀ x, foldedSetIterable it X.env x = pure x := by intro _; rfl) :
    SG G X Wx (.For tg it body [] pos :: rest) ρ En (bnd mw fun ys => forT (fun x j => bnd (mu x) fun a => bb a j) kk ys j0) :=
  weakSs (pss_cons (ps_for hp hc hi ht (pss_un fun z : α × J => hb z.1 z.2) hfs) (pss_un hr)) fun Dn σ H ⟨c, n, P, PX, I, q, hg, hx⟩ => by
    refine ⟨c, ρ, n, fun xs k => ∃ ys, xs = ys.map f ∧ forT (fun x j => bnd (mu x) fun a => bb a j) kk ys j0 k P PX, PX, I, ?_, fun xs k S' H' J0 ⟨ys, exs, p⟩ g I' wk => ?_, hx.x⟩
    · rw [hgi]
      show mw n (fun ys k => ∃ zs, tt ys = zs.map f ∧ forT (fun x j => bnd (mu x) fun a => bb a j) kk zs j0 k P PX) PX
      have ee : (fun ys k => ∃ zs, tt ys = zs.map f ∧ forT (fun x j => bnd (mu x) fun a => bb a j) kk zs j0 k P PX) = fun ys k => forT (fun x j => bnd (mu x) fun a => bb a j) kk ys j0 k P PX := by
        funext ys k
        exact propext ⟨fun ⟨zs, h, q⟩ => (map_inj hf ys zs ((htt ys).symm.trans h)) ▸ q, fun q => ⟨ys, htt ys, q⟩⟩
      rw [ee]
      exact q
    have hlen : xs.length = ys.length := by rw [exs, List.length_map]
    refine ⟨fun i m σ2 H2 => m = xs.length - i ∧ i ≤ xs.length ∧ ∃ S2 j2 k2, Grow S' S2 H' H2 ∧ SI G X.K (c.to S2) σ2 H2 (emb j2) k2 ∧ forT (fun x j => bnd (mu x) fun a => bb a j) kk (ys.drop i) j2 k2 P PX, ⟨_, rfl, Nat.zero_le _, S', j0, k, .refl, I'.le hl, p⟩, ?_⟩
    rintro i m σ2 H2 ⟨rfl, hi, S2, j2, k2, g2, I2, p2⟩
    have gg : Grow c.S S2 H H2 := g.trans g2
    obtain ⟨w1, w2⟩ := wk (c.to S2) (emb j2) σ2 H2 k2 i g2 I2
    by_cases hlt : i < xs.length
    · obtain ⟨go, yl⟩ := w1 hlt
      have hly : i < ys.length := hlen ▸ hlt
      have gb' : ∀ (ρ' : Env) (j' : J) (k' : Nt) (σ' : L2.St) (S'' : Addr → Prop) (H'' : Hp), Le ρ' (emb j') → forT (fun x j => bnd (mu x) fun a => bb a j) kk (ys.drop (i + 1)) j' k' P PX → Grow S2 S'' H2 H'' → SI G X.K (c.to S'') σ' H'' ρ' k' →
          ∃ S3 j3 k3, Grow S' S3 H' H'' ∧ SI G X.K (c.to S3) σ' H'' (emb j3) k3 ∧ forT (fun x j => bnd (mu x) fun a => bb a j) kk (ys.drop (i + 1)) j3 k3 P PX := fun ρ' j' k' σ' S'' H'' le p' g' I'' => ⟨S'', j', k', g2.trans g', I''.le le, p'⟩
      refine .inr ⟨go, fun σ' H'' => ∃ S3 j3 k3, Grow S' S3 H' H'' ∧ SI G X.K (c.to S3) σ' H'' (emb j3) k3 ∧ forT (fun x j => bnd (mu x) fun a => bb a j) kk (ys.drop (i + 1)) j3 k3 P PX, fun σ' H'' q => ⟨xs.length - (i + 1), by omega, rfl, hlt, q⟩, fun v H3 y => ?_⟩
      obtain ⟨S3, x, g3, I3, ex, r⟩ := yl v H3 y
      have ed : ys.drop i = ys[i] :: ys.drop (i + 1) := List.drop_eq_getElem_cons hly
      have ey : x = f ys[i] := by
        rw [exs, List.getElem?_map, List.getElem?_eq_getElem hly] at ex
        exact (Option.some.inj ex).symm
      rw [ed] at p2
      subst ey
      have hx3 := hx.grow (gg.trans g3)
      have hg3 := hg.grow (gg.trans g3)
      let PP : Step J γ → Nt → Prop := fun o k => forK kk (fun j' => forT (fun x j => bnd (mu x) fun a => bb a j) kk (ys.drop (i + 1)) j') o k P PX
      have p3 : mu ys[i] k2 (fun a k => bb a j2 k PP PX) PX := p2
      have p4 : setT t (f ys[i]) (emb j2) k2 (fun ρ' k => ∃ a, ρ' = e a j2 ∧ bb a j2 k PP PX) PX := by
        rw [hs]
        show mu ys[i] k2 (fun a k => ∃ b, e a j2 = e b j2 ∧ bb b j2 k PP PX) PX
        rw [inj_eq (inj j2) fun a k => bb a j2 k PP PX]
        exact p3
      refine gT_ok t I3 r p4 fun ρ' k' σ' ⟨a, ea, p5⟩ I4 _ _ => ?_
      subst ea
      refine ⟨(a, j2), _, k', PP, PX, I4, p5, ⟨?_, ?_, ?_, ?_⟩, hx3⟩
      · rintro ρ5 _ k5 σ5 S5 H5 ⟨j', rfl, le⟩ p6 g5 I5
        exact gb' ρ5 j' k5 σ5 S5 H5 le p6 (g3.trans g5) I5
      · rintro d5 _ k5 v5 σ5 ρ5 S5 H5 ⟨mg, hrt, rfl⟩ p6 g5 I5 r5
        exact hg3.2.1 d5 mg k5 v5 σ5 ρ5 S5 H5 hrt p6 g5 I5 r5
      · rintro ρ5 _ k5 σ5 S5 H5 ⟨j', rfl, le⟩ p6 g5 I5
        exact ⟨j', _, k5, P, PX, I5.le le, p6, hg3.grow g5, hx3.grow g5⟩
      · rintro ρ5 _ k5 σ5 S5 H5 ⟨j', rfl, le⟩ p6 g5 I5
        exact gb' ρ5 j' k5 σ5 S5 H5 le p6 (g3.trans g5) I5
    · have ee : i = ys.length := by omega
      subst ee
      rw [List.drop_length] at p2
      exact .inl ⟨w2 (by omega), j2, _, k2, P, PX, I2, p2, hg.grow gg, hx.grow gg⟩
theorem sg_forI {J β : Type} {tg it : Expr} {body : List Stmt} {pos : Pos} {t : Tg} {gi : Env → W (List D)} {mw : W (List β)} {tt : List β → List D} {f : β → D} {emb : J → Env} {j0 : J} {e : β → J → Env} {bb : β → J → W (Step J γ)} {kk : J → W γ}
    (hp : PassesOwn (model X.prog X.w) X.A X.env X.xe) (hc : X.calm = true) (hi : Wk G X Wx tg it gi) (ht : PTg X tg t) (hgi : gi ρ = bnd mw fun ys => ret (tt ys)) (htt : ∀ ys, tt ys = ys.map f) (hf : ∀ a b, f a = f b → a = b) (hl : Le ρ (emb j0)) (hs : ∀ x j, setT t (f x) (emb j) = ret (e x j)) (inj : ∀ j a b, e a j = e b j → a = b)
    (hb : ∀ a j, SG G X Wx body (e a j) (En.loop emb) (bb a j)) (hr : ∀ j, SG G X Wx rest (emb j) En (kk j)) (hfs : ∀ x, foldedSetIterable it X.env x = pure x := by intro _; rfl) :
    SG G X Wx (.For tg it body [] pos :: rest) ρ En (bnd mw fun ys => forT bb kk ys j0) :=
  sg_for (mu := ret) hp hc hi ht hgi htt hf hl (fun x j => (hs x j).trans rfl) inj hb hr hfs
/-- an if whose ways assign alone -/
def EnJ {J : Type} (emb : J → Env) : Enz J where
  nx := fun ρ m => ∃ j, m = ret j ∧ Le ρ (emb j)
  rt := fun _ _ => False
  bk := fun _ _ => False
  ct := fun _ _ => False
theorem sg_ifA {J : Type} {t : Expr} {a b : List Stmt} {pos : Pos} {gt : Env → W Bool} {mt : W Bool} {emb : J → Env} {ma mb : W J} {k : J → W γ} (ht : T G X Wx t gt) (hg : gt (bor ρ) = mt) (ha : SG G X Wx a ρ (EnJ emb) ma) (hb : SG G X Wx b ρ (EnJ emb) mb) (hr : ∀ j, SG G X Wx rest (emb j) En (k j)) :
    SG G X Wx (.If t a b pos :: rest) ρ En (bnd mt fun x => bnd (if x = true then ma else mb) k) :=
  weakSs (pss_cons (ps_if ht ha hb) (pss_un hr)) fun Dn σ H ⟨c, n, P, PX, I, q, hgl, hx⟩ => by
    obtain ⟨I2, g2⟩ := I.lend
    subst hg
    refine tT.bnd (f := fun x => bnd (if x = true then ma else mb) k) I2 q (hx.grow g2).x fun b k' S' H' p g I' hx' => ?_
    obtain ⟨I3, g3⟩ := I.back g I'
    have hgl3 := hgl.grow g3
    have hx3 := hx.grow g3
    have hE : GlE G X (EnJ emb) (c.to fun a => S' a ∧ ¬ ownS ρ σ a) H' (fun j k' => k j k' P PX) PX { Dn with nx := fun σ H => ∃ j, tG G X Wx (emb j) En (k j) Dn σ H } := by
      refine ⟨?_, fun _ _ _ _ _ _ _ _ z => z.elim, fun _ _ _ _ _ _ z => z.elim, fun _ _ _ _ _ _ z => z.elim⟩
      rintro ρ' _ k5 σ' S' H' ⟨j, rfl, le⟩ p g I
      exact ⟨j, _, k5, P, PX, I.le le, p, hgl3.grow g, hx3.grow g⟩
    cases b with
    | true => exact iteT ⟨_, k', _, PX, I3, p, hE, hx3⟩
    | false => exact iteF ⟨_, k', _, PX, I3, p, hE, hx3⟩
/-- .. with other ends in its ways -/
def joinK {J γ : Type} (k : J → W γ) : Step J γ → W γ
  | .go j => k j
  | .bk j => k j
  | .out g => ret g
def Enz.join {J : Type} (En : Enz γ) (emb : J → Env) : Enz (Step J γ) where
  nx := fun ρ m => ∃ j, m = ret (.go j) ∧ Le ρ (emb j)
  rt := fun d m => ∃ mg, En.rt d mg ∧ m = bnd mg fun g => ret (.out g)
  bk := fun ρ m => ∃ mg, En.bk ρ mg ∧ m = bnd mg fun g => ret (.out g)
  ct := fun ρ m => ∃ mg, En.ct ρ mg ∧ m = bnd mg fun g => ret (.out g)
end

/-! ### defs -/
/-- a def's own ends -/
def EnT : Enz D := ⟨fun _ m => m = ret .non, fun d m => m = ret d, fun _ _ => False, fun _ _ => False⟩
theorem sg_retT {G : PenK} {X : Cx} {Wx : WX} {ρ : Env} {En : Enz D} {rest : List Stmt} {e : Expr} {pos : Pos} {g : Env → W D} {m : W D} (h : E G X Wx e g) (hg : g (bor ρ) = m) (hr : ∀ d, En.rt d (ret d)) : SG G X Wx (.Return (some e) pos :: rest) ρ En m :=
  sg_retD (r := ret) h hg hr
section
variable {G : PenK} {P : Program} {w : World} {K : PySem.W.Frag} {mg : Str → Option Value} {base : Heap}
/-- THE RULE for a def: its body told by values -/
theorem fn_okGC {k : Nat} {f : Addr} {fd : FuncData} {x qual : Str} {st : Stmt} {N ps : List Str} {m : List SV → W D} {Sh : List SV → Prop} (F : Fun K x qual st f fd) (S : FnScope N ps (defScope st)) (hn : ps.length ≤ N.length) (hm : ∀ args n P PX, m args n P PX → Sh args)
    (body : ∀ args, Sh args → ∀ (cdv : Value) (A : Around) (outer : List PySem.Env) (s : Shared) (H : Hp) (E : XK) (Wx : WX), fd.code = cdv → A.guards = some [] → Room k (A.deeper (envOfC qual (defScope st) s.heap.objs.size f cdv)) → Takes (cxOf (L2.CX P w) P w K mg base N qual (defScope st) f cdv A outer s H E) Wx →
      PassesOwn (model P w) (A.deeper (envOfC qual (defScope st) s.heap.objs.size f cdv)) (envOfC qual (defScope st) s.heap.objs.size f cdv) (cxOf (L2.CX P w) P w K mg base N qual (defScope st) f cdv A outer s H E).xe → SG G (cxOf (L2.CX P w) P w K mg base N qual (defScope st) f cdv A outer s H E) Wx (defBody st) (args ++ List.replicate (N.length - args.length) .un) EnT (m args)) :
    FnG P w K mg base (k + 1) f fd ps (spM G K mg ps.length m) := by
  refine FnG.of_bodyC F S (fun vs H Q E ⟨S, pen, args, n, P, PX, hl, _, _, _, _, r, _⟩ => r.len.trans hl) fun cdv A outer s H vs Q E hcc hg hr ⟨S0, pen, args, n, P0, PX, hl, dom, hp, ht, hmu, r, q, hq, hx⟩ => ?_
  refine ⟨_, body args (hm args n P0 PX q) cdv A outer s H E (fun cls d _ H => E cls d H) hcc hg hr (L2.takes_of rfl rfl rfl rfl) (passes_of rfl), ?_⟩
  refine ⟨⟨S0, H, pen, fun a => H a ≠ none ∧ ¬ S0 a, fun a => n.μ a ≠ none⟩, n, P0, PX, SI.entry (by omega) dom hp ht hmu r, q, ⟨?_, ?_, fun _ _ _ _ _ _ z => z.elim, fun _ _ _ _ _ _ z => z.elim⟩, fun x k σ' ρ' S' H' cls dd p g I r => hx x k S' H' cls dd p (SI.after g I) r⟩
  · rintro ρ' _ k σ' S' H' rfl p g I
    exact hq .non k .non S' H' p (SI.after g I) rfl
  · rintro d _ k v σ' ρ' S' H' rfl p g I r
    exact hq d k v S' H' p (SI.after g I) r
/-- .. whose code is not asked for -/
theorem fn_okG {k : Nat} {f : Addr} {fd : FuncData} {x qual : Str} {st : Stmt} {N ps : List Str} {m : List SV → W D} {Sh : List SV → Prop} (F : Fun K x qual st f fd) (S : FnScope N ps (defScope st)) (hn : ps.length ≤ N.length) (hm : ∀ args n P PX, m args n P PX → Sh args)
    (body : ∀ args, Sh args → ∀ (cdv : Value) (A : Around) (outer : List PySem.Env) (s : Shared) (H : Hp) (E : XK) (Wx : WX), A.guards = some [] → Room k (A.deeper (envOfC qual (defScope st) s.heap.objs.size f cdv)) → Takes (cxOf (L2.CX P w) P w K mg base N qual (defScope st) f cdv A outer s H E) Wx →
      PassesOwn (model P w) (A.deeper (envOfC qual (defScope st) s.heap.objs.size f cdv)) (envOfC qual (defScope st) s.heap.objs.size f cdv) (cxOf (L2.CX P w) P w K mg base N qual (defScope st) f cdv A outer s H E).xe → SG G (cxOf (L2.CX P w) P w K mg base N qual (defScope st) f cdv A outer s H E) Wx (defBody st) (args ++ List.replicate (N.length - args.length) .un) EnT (m args)) :
    FnG P w K mg base (k + 1) f fd ps (spM G K mg ps.length m) :=
  fn_okGC F S hn hm fun args hs cdv A outer s H E Wx _ => body args hs cdv A outer s H E Wx
end
end PL

/-! Expressions whose mirrors reduce by themselves; statements by values. -/
namespace PL
open PySem PySem.Spec L2 PyProof.Rows

section
variable {α β : Type}
def orB (m k : W Bool) : W Bool := bnd m fun x => if x = true then ret true else k
def andD (m k : W D) : W D := bnd m fun x => bnd (tru x) fun b => if b = true then k else ret x
def orD (m k : W D) : W D := bnd m fun x => bnd (tru x) fun b => if b = true then ret x else k
theorem orB_ret (a b : Bool) : orB (ret a) (ret b) = ret (a || b) := by cases a <;> rfl
theorem andD_t (k : W D) : andD (ret (.bl true)) k = k := rfl
theorem andD_f (k : W D) : andD (ret (.bl false)) k = ret (.bl false) := rfl
theorem thenB_bl (a b : Bool) : thenB (ret (.bl a)) (ret (.bl b)) = ret (.bl (a && b)) := by cases a <;> rfl

def intI : D → W Int
  | .int i => ret i
  | _ => stuck
def lenI : D → W Int
  | .lst xs => ret xs.length
  | .tup xs => ret xs.length
  | .str x => ret x.length
  | .dic kvs => ret kvs.length
  | _ => stuck
def mulI (i j : Int) : W Int := grd (CM i j) (ret (i * j))
def modI (i j : Int) : W Int := grd (0 < j) (ret (i % j))
def addL (a b : List D) : W (List D) := grd (a.length + b.length ≤ sizeLine) (ret (a ++ b))
def eqB (a b : D) : W Bool := grd (eqQ a b) (ret (PyData.eqv (py a) (py b)))
def neB (a b : D) : W Bool := grd (eqQ a b) (ret (!PyData.eqv (py a) (py b)))
/-- a draw below b -/
def drw (b : Int) : W Int := fun n P _ => n.n < drawMax ∧ 0 < b ∧ b < 1000000000000000000000000000000000000000000000000000000000000 ∧ ∀ r k, 0 ≤ r → r < b → n.n ≤ k → k ≤ n.n + 1 → P r ⟨k, n.μ⟩
/-- a call without the source of draws -/
def cl (m : W D) : W D := fun n P PX => m ⟨0, n.μ⟩ (fun d k => P d ⟨n.n, k.μ⟩) fun x k => PX x ⟨n.n, k.μ⟩
theorem cl_ret (d : D) : cl (ret d) = ret d := rfl
theorem cl_eq {m : W D} {d : D} (h : m = ret d) : cl m = ret d := by rw [h]; rfl
def unp2 : D → W (D × D)
  | .tup [a, b] => ret (a, b)
  | .lst [a, b] => ret (a, b)
  | _ => stuck
theorem setT_tp2 (i j : Nat) (x : D) (ρ : Env) : setT (.tp [.nm i, .nm j]) x ρ = bnd (unp2 x) fun p => ret ((ρ.set i (.d p.1)).set j (.d p.2)) := by
  cases x with
  | tup xs =>
    match xs with
    | [] => funext n P X; exact propext ⟨fun h => (by have q := h.1; simp at q), fun h => False.elim h⟩
    | [a] => funext n P X; exact propext ⟨fun h => (by have q := h.1; simp at q), fun h => False.elim h⟩
    | [a, b] => exact grd_pos rfl _
    | a :: b :: c :: l => funext n P X; exact propext ⟨fun h => (by have q := h.1; simp at q), fun h => False.elim h⟩
  | lst xs =>
    match xs with
    | [] => funext n P X; exact propext ⟨fun h => (by have q := h.1; simp at q), fun h => False.elim h⟩
    | [a] => funext n P X; exact propext ⟨fun h => (by have q := h.1; simp at q), fun h => False.elim h⟩
    | [a, b] => exact grd_pos rfl _
    | a :: b :: c :: l => funext n P X; exact propext ⟨fun h => (by have q := h.1; simp at q), fun h => False.elim h⟩
  | _ => rfl
/-- parts in a row -/
def bndL : List (W D) → (List D → W β) → W β
  | [], f => f []
  | m :: ms, f => bnd m fun x => bndL ms fun xs => f (x :: xs)
theorem bndL_bnd : ∀ (ms : List (W D)) (f : List D → W α) (k : α → W β), bnd (bndL ms f) k = bndL ms fun xs => bnd (f xs) k
  | [], _, _ => rfl
  | m :: ms, f, k => by
    show bnd m (fun x => bnd (bndL ms fun xs => f (x :: xs)) k) = bnd m _
    congr 1
    funext x
    exact bndL_bnd ms _ k
theorem bndL_len : ∀ (ms : List (W D)) {f f' : List D → W β}, (∀ xs, xs.length = ms.length → f xs = f' xs) → bndL ms f = bndL ms f'
  | [], _, _, h => h [] rfl
  | m :: ms, f, f', h => by
    show bnd m _ = bnd m _
    congr 1
    funext x
    exact bndL_len ms fun xs e => h (x :: xs) (by simp [e])
/-- a comprehension -/
def optK (k : D → W β) (m : W β) : Option D → W β
  | some y => k y
  | none => m
def compP (f : α → W (Option D)) : List α → W (List D)
  | [] => ret []
  | x :: xs => bnd (f x) (optK (fun y => bnd (compP f xs) fun ys => ret (y :: ys)) (compP f xs))
def fewN (n : Nat) (m : W β) : W β := grd (n ≤ sizeLine) m
/-- [f(x) for x in xs] -/
def mapP (f : α → W D) (xs : List α) : W (List D) := fewN xs.length (quiet (compP (fun x => bnd (f x) fun y => ret (some y)) xs))
theorem compP_map {γ : Type} (h : γ → α) (f : α → W (Option D)) : ∀ xs : List γ, compP f (xs.map h) = compP (fun x => f (h x)) xs
  | [] => rfl
  | x :: xs => by
    show bnd (f (h x)) _ = bnd (f (h x)) _
    rw [compP_map h f xs]
theorem compW_P {t : Tg} {gt : Env → W Bool} {ge : Env → W D} {ρ : Env} : ∀ xs : List D, compW t gt ge ρ xs = compP (fun x => bnd (setT t x ρ) fun ρ' => bnd (gt ρ') fun k => if k = true then bnd (ge ρ') fun y => ret (some y) else ret none) xs
  | [] => rfl
  | x :: xs => by
    show bnd (setT t x ρ) _ = bnd (bnd (setT t x ρ) _) _
    rw [bnd_bnd]
    congr 1
    funext ρ'
    rw [bnd_bnd]
    congr 1
    funext b
    rw [← compW_P xs]
    cases b <;> rfl
end

section
variable {G : PenK} {X : Cx} {Wx : WX}
theorem E.filt {e : Expr} {g : Env → W D} {h : D → W D} (he : E G X Wx e g) (hh : ∀ x k P PX, h x k P PX → P x k) : E G X Wx e (fun ρ => bnd (g ρ) h) :=
  weakE he fun σ H Q ⟨c, ρ, n, P, PX, I, q, hg, hx⟩ => ⟨c, ρ, n, fun x k => h x k P PX, PX, I, q, fun d k v S' H' p g I' r => hg d k v S' H' (hh d k P PX p) g I' r, hx⟩
theorem E.eq {e : Expr} {g g' : Env → W D} (he : E G X Wx e g) (h : g = g') : E G X Wx e g' := h ▸ he
theorem e_asI {e : Expr} {g : Env → W D} (he : E G X Wx e g) : E G X Wx e (fun ρ => bnd (g ρ) fun x => bnd (intI x) fun i => ret (.int i)) :=
  he.filt fun x k P PX h => by cases x <;> first | exact h | exact False.elim h
theorem e_lenI {p pos : Pos} {e : Expr} {g : Env → W D} (hm : X.mg "len" = none) (h : E G X Wx e g) (hg : Gl X "len" := by rfl) (he : starEach [e] X.env = (false, eval e X.env) :: starEach [] X.env := by rfl) :
    E G X Wx (.Call (.Name "len" p) [e] [] pos) (fun ρ => bnd (g ρ) fun x => bnd (lenI x) fun i => ret (.int i)) :=
  (e_len' hm h hg he).eq (by
    have q : lenD = fun x => bnd (lenI x) fun i => ret (.int i) := by funext x; cases x <;> rfl
    rw [q])
/-! ### comparisons of known kinds -/
def eqI : D → D → W D
  | .int i, .int j => ret (.bl (decide (i = j)))
  | _, _ => stuck
def neI : D → D → W D
  | .int i, .int j => ret (.bl (!decide (i = j)))
  | _, _ => stuck
def eqS : D → D → W D
  | .str i, .str j => ret (.bl (i == j))
  | _, _ => stuck
theorem neD_int (i j : Int) : neD (.int i) (.int j) = PL.ret (.bl (!decide (i = j))) := by
  unfold neD
  rw [grd_pos (.inl ⟨rfl, rfl⟩)]
  simp only [py, PyData.eqv]
  rfl
theorem Cm.imp {op : CmpOp} {h h' : D → D → W D} (m : Cm G X Wx op h) (hh : ∀ d e n P PX, h' d e n P PX → h d e n P PX) : Cm G X Wx op h' := by
  obtain ⟨r, o, v⟩ := m
  exact ⟨r, o, fun c σ ρ H n P PX d e v' w Q I rd re q hg hx => v c σ ρ H n P PX d e v' w Q I rd re (hh d e n P PX q) hg hx⟩
theorem cm_eqI (hu : X.A.units + 64 < cLine) : Cm G X Wx .Eq eqI := (cm_eq hu).imp fun d e n P PX h => by
  cases d <;> cases e <;> first | (rw [eqD_int]; exact h) | exact False.elim h
theorem cm_neI (hu : X.A.units + 64 < cLine) : Cm G X Wx .NotEq neI := (cm_ne hu).imp fun d e n P PX h => by
  cases d <;> cases e <;> first | (rw [neD_int]; exact h) | exact False.elim h
/-- a ** b of written numbers -/
theorem e_powC {a b : Expr} {pos : Pos} {i j v : Int} (ha : E G X Wx a (fun _ => ret (.int i))) (hb : E G X Wx b (fun _ => ret (.int j))) (h : CPow i j := by unfold CPow; decide +kernel) (hv : i ^ j.toNat = v := by decide +kernel) : E G X Wx (.BinOp a .Pow b pos) (fun _ => ret (.int v)) :=
  (e_pow ha hb).eq (by
    funext ρ
    show powD (.int i) (.int j) = _
    rw [← hv]
    exact grd_pos h _)
/-! ### displays -/
def AL (G : PenK) (X : Cx) (Wx : WX) (es : List Expr) (gs : List (Env → W D)) : Prop := A G X Wx es (fun ρ => bndL (gs.map fun g => g ρ) ret)
theorem A.eq {es : List Expr} {g g' : Env → W (List D)} (he : A G X Wx es g) (h : g = g') : A G X Wx es g' := h ▸ he
theorem al_nil : AL G X Wx [] [] := a_nil
theorem al_cons {e : Expr} {es : List Expr} {g : Env → W D} {gs : List (Env → W D)} (h : E G X Wx e g) (hs : AL G X Wx es gs) (hp : starEach (e :: es) X.env = (false, eval e X.env) :: starEach es X.env := by rfl) : AL G X Wx (e :: es) (g :: gs) :=
  (a_cons h hs hp).eq (by
    funext ρ
    show bnd (g ρ) (fun x => bnd (bndL (gs.map fun g => g ρ) ret) fun xs => ret (x :: xs)) = bnd (g ρ) fun x => bndL (gs.map fun g => g ρ) fun xs => ret (x :: xs)
    congr 1
    funext x
    rw [bndL_bnd]
    rfl)
theorem bndL_few {β : Type} {ms : List (W D)} {f : List D → W β} (h : ms.length ≤ 1000) : bnd (bndL ms ret) (fun xs => few xs (f xs)) = bndL ms f := by
  rw [bndL_bnd]
  exact bndL_len ms fun xs e => fewS (by omega) _
theorem e_tupL {es : List Expr} {x1 : Nat} {pos : Pos} {gs : List (Env → W D)} (h : AL G X Wx es gs) (hz : gs.length ≤ 1000 := by decide) : E G X Wx (.Tuple es x1 pos) (fun ρ => bndL (gs.map fun g => g ρ) fun xs => ret (.tup xs)) :=
  (e_tup h).eq (by funext ρ; exact bndL_few (by simpa using hz))
theorem EO.eq {e : Expr} {g g' : Env → W (List D)} (he : EO G X Wx e g) (h : g = g') : EO G X Wx e g' := h ▸ he
theorem o_lstL {es : List Expr} {pos : Pos} {gs : List (Env → W D)} (h : AL G X Wx es gs) (hz : gs.length ≤ 1000 := by decide) : EO G X Wx (.List es pos) (fun ρ => bndL (gs.map fun g => g ρ) ret) :=
  (o_lst h).eq (by funext ρ; exact bndL_few (by simpa using hz))
/-! ### comprehensions -/
theorem grd_onB {α : Type} (b : Bool) (m : W α) : grd (b = true) m = onB b m := by
  cases b with
  | true => exact grd_pos rfl m
  | false => funext n P X; exact propext ⟨fun h => (by have q := h.1; simp at q), fun h => False.elim h⟩
/-- what a comprehension's mirror is, over the values that its target takes -/
def compM {α β : Type} (mu : β → W α) (e : α → Env → Env) (vs : List Nat) (gt : Env → W Bool) (ge : Env → W D) (ρ : Env) (xs : List β) : W (List D) :=
  onB (noOwn vs ρ) (fewN xs.length (quiet (compP (fun x => bnd (mu x) fun a => bnd (gt (e a (wip vs ρ))) fun k => if k = true then bnd (ge (e a (wip vs ρ))) fun y => ret (some y) else ret none) xs)))
theorem grd_swap {α : Type} (p q : Prop) (m : W α) : grd p (grd q m) = grd q (grd p m) := by
  funext n P X
  exact propext ⟨fun ⟨a, b, c⟩ => ⟨b, a, c⟩, fun ⟨a, b, c⟩ => ⟨b, a, c⟩⟩
theorem compM_eq {α β : Type} {t : Tg} {f : β → D} {tt : List β → List D} {mu : β → W α} {e : α → Env → Env} (htt : ∀ ys, tt ys = ys.map f) (hs : ∀ x ρ, setT t (f x) ρ = bnd (mu x) fun a => ret (e a ρ)) (vs : List Nat) (gt : Env → W Bool) (ge : Env → W D) (ρ : Env) (ys : List β) :
    few (tt ys) (grd (noOwn vs ρ = true) (quiet (compW t gt ge (wip vs ρ) (tt ys)))) = compM mu e vs gt ge ρ ys := by
  unfold compM few fewN
  rw [grd_swap, grd_onB, compW_P, htt, compP_map, List.length_map]
  simp only [hs, bnd_bnd, bnd_ret]
theorem o_lcQ {α β : Type} {elt tg iter : Expr} {ifs : List Expr} {scope : Scope} {own : List (Str × Nat)} {pos : Pos} {t : Tg} {gy : Env → W (List β)} {tt : List β → List D} {f : β → D} {gt : Env → W Bool} {ge : Env → W D} {mu : β → W α} {ee : α → Env → Env} (htt : ∀ ys, tt ys = ys.map f) (hsT : ∀ x ρ, setT t (f x) ρ = bnd (mu x) fun a => ret (ee a ρ)) (hc : X.calm = true) (hN : X.N.Nodup) (hi : Wk G X Wx tg iter (fun ρ => bnd (gy ρ) fun ys => ret (tt ys))) (ok : BlkOk X.N X.env.scope scope own)
    (hg : ∀ (s : Shared) (H : Hp) (A : Addr) (cl : List (Str × Addr)) (fp : List Addr), PTg (X.blk s H scope (compEnvC scope cl A X.env) fp) tg t) (ht : ∀ (s : Shared) (H : Hp) (A : Addr) (cl : List (Str × Addr)) (fp : List Addr), Ts G (X.blk s H scope (compEnvC scope cl A X.env) fp) ifs gt)
    (he : ∀ (s : Shared) (H : Hp) (A : Addr) (cl : List (Str × Addr)) (fp : List Addr), E G (X.blk s H scope (compEnvC scope cl A X.env) fp) WF elt ge) (hix : ∀ i ∈ t.ix, i ∈ own.map (·.2) := by decide) (hs : ∀ x, foldedSetIterable iter X.env x = pure x := by intro _; rfl) :
    EO G X Wx (.ListComp elt [⟨tg, iter, ifs, 0⟩] scope pos) (fun ρ => bnd (gy ρ) (compM mu ee (own.map (·.2)) gt ge ρ)) :=
  (o_lc hc hN hi ok hg ht he hix hs).eq (by
    funext ρ
    show bnd (bnd (gy ρ) _) _ = _
    rw [bnd_bnd]
    congr 1
    funext xs
    exact compM_eq htt hsT _ _ _ _ _)
/-! ### walks -/
theorem Wk.eq {tg e : Expr} {g g' : Env → W (List D)} (he : Wk G X Wx tg e g) (h : g = g') : Wk G X Wx tg e g' := h ▸ he
def rngZ (lo : Int) (n : Nat) : List Int := (List.range n).map fun i => lo + (i : Nat)
theorem rngZ_map (lo : Int) (n : Nat) : rng lo n = (rngZ lo n).map .int := by
  unfold rng rngZ
  rw [List.map_map]
  rfl
def rngI (i : Int) : W (List Int) := grd (inR i) (ret (rngZ 0 i.toNat))
def rngD : D → W (List Int)
  | .int i => rngI i
  | _ => stuck
theorem seqT_map (ys : List D) : (fun ys : List D => ys) ys = ys.map fun y => y := by simp
theorem w_seqZ {tg e : Expr} {g : Env → W D} (h : E G X Wx e g) : Wk G X Wx tg e (fun ρ => bnd (bnd (g ρ) items) fun ys => ret ys) := w_seq h
theorem w_rng1Z {tg e : Expr} {p pos : Pos} {g : Env → W D} (hm : X.mg "range" = none) (h : E G X Wx e g) (hg : Gl X "range" := by rfl) (hs : starEach [e] X.env = [(false, eval e X.env)] := by rfl) : Wk G X Wx tg (.Call (.Name "range" p) [e] [] pos) (fun ρ => bnd (bnd (g ρ) rngD) fun ys => ret (ys.map .int)) :=
  (w_rng1 hm h hg hs).eq (by
    have q : rng1 = fun d => bnd (rngD d) fun ys => ret (ys.map D.int) := by
      funext d
      cases d with
      | int i =>
        show grd _ (ret (rng 0 i.toNat)) = _
        rw [rngZ_map]
        rfl
      | _ => rfl
    rw [q]
    rfl)
def enumZ (i : Nat) : List D → List (Int × D)
  | [] => []
  | x :: xs => ((i : Int), x) :: enumZ (i + 1) xs
def eT (p : Int × D) : D := .tup [.int p.1, p.2]
theorem enumZ_map : ∀ (i : Nat) (xs : List D), enumFrom i xs = (enumZ i xs).map eT
  | _, [] => rfl
  | i, x :: xs => by
    show _ :: enumFrom (i + 1) xs = _ :: _
    rw [enumZ_map (i + 1) xs]
    rfl
def enumI (d : D) : W (List (Int × D)) := bnd (items d) fun xs => ret (enumZ 0 xs)
theorem w_enumZ {elts : List Expr} {kk : Nat} {tpos p pos : Pos} {e : Expr} {g : Env → W D} (hm : X.mg "enumerate" = none) (h : E G X Wx e g) (hg : Gl X "enumerate" := by rfl) (hs : starEach [e] X.env = [(false, eval e X.env)] := by rfl) :
    Wk G X Wx (.Tuple elts kk tpos) (.Call (.Name "enumerate" p) [e] [] pos) (fun ρ => bnd (bnd (g ρ) enumI) fun ys => ret (ys.map eT)) :=
  (w_enum hm h hg hs).eq (by
    have q : enumD = fun d => bnd (enumI d) fun ys => ret (ys.map eT) := by
      funext d
      cases d with
      | lst xs => show ret (enumFrom 0 xs) = _; rw [enumZ_map]; rfl
      | tup xs => show ret (enumFrom 0 xs) = _; rw [enumZ_map]; rfl
      | _ => rfl
    rw [q]
    rfl)
def chD (k : Nat) : D := .str ⟨#[k]⟩
def codesD : D → W (List Nat)
  | .str x => ret x.cps.toList
  | _ => stuck
theorem w_strZ {tg e : Expr} {g : Env → W D} (h : E G X Wx e g) : Wk G X Wx tg e (fun ρ => bnd (bnd (g ρ) codesD) fun ys => ret (ys.map chD)) :=
  (w_str h).eq (by
    have q : signs = fun d => bnd (codesD d) fun ys => ret (ys.map chD) := by
      funext d
      cases d <;> rfl
    rw [q]
    rfl)
theorem eT_inj (a b : Int × D) (h : eT a = eT b) : a = b := by
  cases a; cases b
  unfold eT at h
  simp at h
  simp [h]
theorem int_inj (a b : Int) (h : D.int a = D.int b) : a = b := D.int.inj h
theorem tup_inj (a b : List D) (h : D.tup a = D.tup b) : a = b := D.tup.inj h
theorem dic_inj (a b : List (Key × D)) (h : D.dic a = D.dic b) : a = b := D.dic.inj h
theorem id_inj {α : Type} (a b : α) (h : (fun x : α => x) a = (fun x : α => x) b) : a = b := h
theorem setT_1 (i : Nat) {β : Type} (f : β → D) (x : β) (ρ : Env) : setT (.nm i) (f x) ρ = bnd (ret x) fun a => ret (ρ.set i (.d (f a))) := rfl
theorem setT_e (i j : Nat) (p : Int × D) (ρ : Env) : setT (.tp [.nm i, .nm j]) (eT p) ρ = bnd (ret p) fun p => ret ((ρ.set i (.d (.int p.1))).set j (.d p.2)) := grd_pos rfl _
/-! ### statements by values -/
variable {γ : Type} {En : Enz γ} {ρ : Env} {rest : List Stmt} {m : W γ}
theorem lt_lit {ρ : Env} {i L : Nat} (h : ρ.length = L) (hi : i < L) : i < ρ.length := h ▸ hi
theorem set_inj {α : Type} {f : α → D} {i : Nat} (hi : i < ρ.length) (inj : ∀ a b, f a = f b → a = b) (a b : α) (h : ρ.set i (.d (f a)) = ρ.set i (.d (f b))) : a = b := by
  have q := congrArg (·[i]?) h
  simp only [List.getElem?_set_self hi] at q
  exact inj a b (SV.d.inj (Option.some.inj q))
theorem own_inj {α : Type} {f : α → List D} {i : Nat} (hi : i < ρ.length) (inj : ∀ a b, f a = f b → a = b) (a b : α) (h : ρ.set i (.own (f a)) = ρ.set i (.own (f b))) : a = b := by
  have q := congrArg (·[i]?) h
  simp only [List.getElem?_set_self hi] at q
  exact inj a b (SV.own.inj (Option.some.inj q))
/-- x = e -/
theorem sg_asg {tg e : Expr} {pos : Pos} {g : Env → W D} {α : Type} {m0 : W α} {f : α → D} {k : α → W γ} {ρ' : α → Env} (i L : Nat) (h : E G X Wx e g) (ht : PTg X tg (.nm i)) (hg : g ρ = bnd m0 fun a => ret (f a)) (inj : ∀ a b, f a = f b → a = b) (hL : ρ.length = L) (hi : i < L) (hρ : ∀ a, ρ.set i (.d (f a)) = ρ' a) (hr : ∀ a, SG G X Wx rest (ρ' a) En (k a))
    (h1 : (assignEach [tg] X.env).map (·.2) = [assign tg X.env] := by rfl) (hs : swapsWithSole [tg] e pos.line X.env = pure false := by rfl) (hw : swappedStores [tg] e X.env = pure none := by rfl) : SG G X Wx (.Assign [tg] e pos :: rest) ρ En (bnd m0 k) :=
  sg_stmt (s_asg h ht h1 hs hw) (by rw [hg]; rfl) (set_inj (lt_lit hL hi) inj) fun a => by rw [hρ]; exact hr a
/-- x = e, e known -/
theorem sg_asgP {tg e : Expr} {pos : Pos} {g : Env → W D} {d : D} {ρ' : Env} (i : Nat) (h : E G X Wx e g) (ht : PTg X tg (.nm i)) (hg : g ρ = ret d) (hρ : ρ.set i (.d d) = ρ') (hr : SG G X Wx rest ρ' En m)
    (h1 : (assignEach [tg] X.env).map (·.2) = [assign tg X.env] := by rfl) (hs : swapsWithSole [tg] e pos.line X.env = pure false := by rfl) (hw : swappedStores [tg] e X.env = pure none := by rfl) : SG G X Wx (.Assign [tg] e pos :: rest) ρ En m :=
  sg_stmt (m0 := ret ()) (e := fun _ => ρ.set i (.d d)) (k := fun _ => m) (s_asg h ht h1 hs hw) (by rw [hg]; rfl) (fun _ _ _ => rfl) fun _ => by rw [hρ]; exact hr
/-- x = [..] on one line -/
theorem sg_asgLc {α β : Type} {y : Str} {py spos : Pos} {elt tg iter : Expr} {ifs : List Expr} {scope : Scope} {own : List (Str × Nat)} {pos : Pos} {t : Tg} {gy : Env → W (List β)} {tt : List β → List D} {f : β → D} {gt : Env → W Bool} {ge : Env → W D} {mu : β → W α} {ee : α → Env → Env} {m0 : W (List D)} {k : List D → W γ} {ρ' : List D → Env} (i L : Nat) (htt : ∀ ys, tt ys = ys.map f) (hsT : ∀ x ρ, setT t (f x) ρ = bnd (mu x) fun a => ret (ee a ρ)) (hc : X.calm = true) (hN : X.N.Nodup) (hi : Wk G X Wx tg iter (fun ρ => bnd (gy ρ) fun ys => ret (tt ys))) (ok : BlkOk X.N X.env.scope scope own)
    (hg : ∀ (s : Shared) (H : Hp) (A : Addr) (cl : List (Str × Addr)) (fp : List Addr), PTg (X.blk s H scope (compEnvC scope cl A X.env) fp) tg t) (ht : ∀ (s : Shared) (H : Hp) (A : Addr) (cl : List (Str × Addr)) (fp : List Addr), Ts G (X.blk s H scope (compEnvC scope cl A X.env) fp) ifs gt)
    (he : ∀ (s : Shared) (H : Hp) (A : Addr) (cl : List (Str × Addr)) (fp : List Addr), E G (X.blk s H scope (compEnvC scope cl A X.env) fp) WF elt ge) (hm : bnd (gy ρ) (compM mu ee (own.map (·.2)) gt ge ρ) = m0) (hL : ρ.length = L) (hiL : i < L) (hρ : ∀ a, ρ.set i (.d (.lst a)) = ρ' a) (hr : ∀ a, SG G X Wx rest (ρ' a) En (k a)) (hy : X.N[i]? = some y := by rfl) (hyl : X.env.scope.names.lookup y = some .local := by rfl) (hix : ∀ i ∈ t.ix, i ∈ own.map (·.2) := by decide)
    (hk : X.env.scope.kind = .function := by rfl) (hln : (py.line == pos.line) = true := by rfl) (hsc : (scope.names.any fun (n, k) => n == y && (k == .local || k == .cell)) = false := by rfl) (hs : ∀ x, foldedSetIterable iter X.env x = pure x := by intro _; rfl) :
    SG G X Wx (.Assign [.Name y py] (.ListComp elt [⟨tg, iter, ifs, 0⟩] scope pos) spos :: rest) ρ En (bnd m0 k) :=
  sg_stmt (e := fun xs => ρ.set i (.d (.lst xs))) (s_asgLc i hc hN hi ok hg ht he hy hyl hix hk hln hsc hs) (by
    rw [← hm]
    show bnd (bnd (gy ρ) fun ys => few (tt ys) (grd (noOwn (own.map (·.2)) ρ = true) (quiet (compW t gt ge (wip (own.map (·.2)) ρ) (tt ys))))) _ = bnd (bnd (gy ρ) _) _
    congr 2
    funext xs
    exact compM_eq htt hsT _ _ _ _ _) (set_inj (f := .lst) (lt_lit hL hiL) fun _ _ h => D.lst.inj h) fun a => by rw [hρ]; exact hr a
/-- a, b = e -/
theorem sg_asg2 {tg e : Expr} {pos : Pos} {g : Env → W D} {α : Type} {m0 : W α} {f1 f2 : α → D} {k : α → W γ} {ρ' : α → Env} (i j L : Nat) (h : E G X Wx e g) (ht : PTg X tg (.tp [.nm i, .nm j])) (hg : bnd (g ρ) unp2 = bnd m0 fun a => ret (f1 a, f2 a)) (inj : ∀ a b, f1 a = f1 b → f2 a = f2 b → a = b) (hL : ρ.length = L) (hi : i < L) (hj : j < L) (hij : j ≠ i) (hρ : ∀ a, (ρ.set i (.d (f1 a))).set j (.d (f2 a)) = ρ' a) (hr : ∀ a, SG G X Wx rest (ρ' a) En (k a))
    (h1 : (assignEach [tg] X.env).map (·.2) = [assign tg X.env] := by rfl) (hs : swapsWithSole [tg] e pos.line X.env = pure false := by rfl) (hw : swappedStores [tg] e X.env = pure none := by rfl) : SG G X Wx (.Assign [tg] e pos :: rest) ρ En (bnd m0 k) :=
  sg_stmt (e := fun a => (ρ.set i (.d (f1 a))).set j (.d (f2 a))) (s_asg h ht h1 hs hw) (by
    have q : (fun d => bnd (setT (.tp [.nm i, .nm j]) d ρ) fun ρ' => ret (Out.nx ρ')) = fun d => bnd (unp2 d) fun p => ret (.nx ((ρ.set i (.d p.1)).set j (.d p.2))) := by
      funext d
      rw [setT_tp2]
      rfl
    rw [q, ← bnd_bnd, hg]
    rfl) (fun a b hab => by
    have q := congrArg (·[j]?) hab
    simp only [List.getElem?_set_self (show j < (ρ.set i (SV.d (f1 a))).length by simp [hL, hj]), List.getElem?_set_self (show j < (ρ.set i (SV.d (f1 b))).length by simp [hL, hj])] at q
    have q2 := congrArg (·[i]?) hab
    simp only [List.getElem?_set_ne hij, List.getElem?_set_self (show i < ρ.length by rw [hL]; exact hi)] at q2
    exact inj a b (SV.d.inj (Option.some.inj q2)) (SV.d.inj (Option.some.inj q))) fun a => by rw [hρ]; exact hr a
/-- x = [..], of one's own -/
theorem sg_own {x : Str} {px pos : Pos} {e : Expr} {g : Env → W (List D)} {m0 : W (List D)} {k : List D → W γ} {ρ' : List D → Env} (i L : Nat) (h : EO G X Wx e g) (hN : X.N.Nodup) (hg : g ρ = m0) (hL : ρ.length = L) (hiL : i < L) (hρ : ∀ a, ρ.set i (.own a) = ρ' a) (hr : ∀ a, SG G X Wx rest (ρ' a) En (k a)) (hi : X.N[i]? = some x := by rfl) (hx : Loc X.env.scope x := by first | exact Or.inl rfl | exact Or.inr rfl) (hf : X.fn x = true ∨ X.env.scope.names.lookup x = some .local := by first | exact .inl rfl | exact .inr rfl)
    (hs : swapsWithSole [.Name x px] e pos.line X.env = pure false := by rfl) (hw : swappedStores [.Name x px] e X.env = pure none := by rfl) : SG G X Wx (.Assign [.Name x px] e pos :: rest) ρ En (bnd m0 k) :=
  sg_stmt (s_own i h hN hi hx hf hs hw) (by rw [hg]) (own_inj (f := fun a => a) (lt_lit hL hiL) fun _ _ h => h) fun a => by rw [hρ]; exact hr a
theorem sg_ownP {x : Str} {px pos : Pos} {e : Expr} {g : Env → W (List D)} {d : List D} {ρ' : Env} (i : Nat) (h : EO G X Wx e g) (hN : X.N.Nodup) (hg : g ρ = ret d) (hρ : ρ.set i (.own d) = ρ') (hr : SG G X Wx rest ρ' En m) (hi : X.N[i]? = some x := by rfl) (hx : Loc X.env.scope x := by first | exact Or.inl rfl | exact Or.inr rfl) (hf : X.fn x = true ∨ X.env.scope.names.lookup x = some .local := by first | exact .inl rfl | exact .inr rfl)
    (hs : swapsWithSole [.Name x px] e pos.line X.env = pure false := by rfl) (hw : swappedStores [.Name x px] e X.env = pure none := by rfl) : SG G X Wx (.Assign [.Name x px] e pos :: rest) ρ En m :=
  sg_stmt (m0 := ret ()) (e := fun _ => ρ.set i (.own d)) (k := fun _ => m) (s_own i h hN hi hx hf hs hw) (by rw [hg]; rfl) (fun _ _ _ => rfl) fun _ => by rw [hρ]; exact hr
/-- xs.append(e) -/
def roomL {α : Type} (xs : List D) (m : W α) : W α := grd (xs.length < sizeLine) m
theorem app_inj {α : Type} {f : α → D} {xs : List D} (inj : ∀ a b, f a = f b → a = b) (a b : α) (h : xs ++ [f a] = xs ++ [f b]) : a = b := inj a b (by
  have q := List.append_cancel_left h
  exact (List.cons.inj q).1)
theorem sg_app {x : Str} {px pa pc pos : Pos} {e : Expr} {g : Env → W D} {α : Type} {m0 : W α} {f : α → D} {k : α → W γ} {ρ' : α → Env} {xs : List D} (i L : Nat) (h : E G X Wx e g) (hx : ρ[i]? = some (.own xs)) (hg : g ρ = bnd m0 fun a => ret (f a)) (inj : ∀ a b, f a = f b → a = b) (hL : ρ.length = L) (hi : i < L) (hρ : ∀ a, ρ.set i (.own (xs ++ [f a])) = ρ' a) (hr : ∀ a, SG G X Wx rest (ρ' a) En (k a))
    (hN : X.N[i]? = some x := by rfl) (hv : Vis X.env.scope x := by first | exact Or.inl rfl | exact Or.inr (Or.inl rfl) | exact Or.inr (Or.inr rfl)) (hd : (x == ("__debug__" : Str)) = false := by decide)
    (hcd : (x == ("__classdict__" : Str)) = false := by decide) (hst : starEach [e] X.env = (false, eval e X.env) :: starEach [] X.env := by rfl)
    (hbase : attributeBase (.Name x px) "append" X.env (eval (.Name x px) X.env) = eval (.Name x px) X.env := by rfl)
    (hfew : ((backTo pc (starEach [e] X.env)).all (fun x => !x.1) && (backToKw pc (keywordEach [] X.env)).all (fun x => x.1.isSome)
      && decide (([e] : List Expr).length + ([] : List Keyword).length + (if ([] : List Keyword).isEmpty then 0 else 1) < 30)) = true := by rfl)
    (hline : (pa.endLine == pc.line) = true := by rfl) (hplain : (backTo pc (starEach [] X.env)).any (·.1) = false := by rfl) (hs : swapsWith (.Call (.Attribute (.Name x px) "append" pa) [e] [] pc) none pos.line X.env = pure false := by rfl) :
    SG G X Wx (.Expr (.Call (.Attribute (.Name x px) "append" pa) [e] [] pc) pos :: rest) ρ En (bnd m0 fun a => roomL xs (k a)) :=
  sg_eq (sg_stmt (m0 := bnd m0 fun a => roomL xs (ret a)) (e := fun a => ρ.set i (.own (xs ++ [f a]))) (k := k) (s_app i h hN hv hd hcd hst hbase hfew hline hplain hs) (by
    unfold ownAt
    rw [hx, hg]
    rfl) (own_inj (f := fun a => xs ++ [f a]) (lt_lit hL hi) (app_inj inj)) fun a => by rw [hρ]; exact hr a) rfl
end
end PL

/-! t[::-1] of a tuple or a list. -/
namespace PL
open PySem PySem.Spec L2 PyProof.Rows

section
variable {prog : Program} {w : World} {A : Around} {E : Value → Shared → Prop} {s : Shared}
theorem adjust_rev (n : Nat) : Builtin.Slice.sliceAdjust none none (-1) (n : Int) = ((n : Int) - 1, -1) := by
  unfold Builtin.Slice.sliceAdjust
  rfl
theorem places_rev (n : Nat) : Builtin.Slice.slicePlaces ((n : Int) - 1) (-1) (-1) = n := by
  unfold Builtin.Slice.slicePlaces
  have h1 : ¬ ((-1 : Int) > 0) := by omega
  simp only [h1, if_false]
  split
  · simp
  · omega
theorem pick_rev (xs : List Value) : ((List.range xs.length).filterMap fun (m : Nat) => xs[(((xs.length : Nat) : Int) - 1 + (m : Int) * -1).toNat]?) = xs.reverse := by
  have h := PySem.W.krv_all xs.reverse.toArray
  have h2 : (List.range xs.length).filterMap (fun m => xs.reverse.toArray[m]?) = xs.reverse := by simpa using h
  rw [← h2]
  have key : ∀ l : List Nat, (∀ m ∈ l, m < xs.length) → l.filterMap (fun (m : Nat) => xs[(((xs.length : Nat) : Int) - 1 + (m : Int) * -1).toNat]?) = l.filterMap (fun m => xs.reverse.toArray[m]?) := fun l => by
    induction l with
    | nil => intro _; rfl
    | cons m l ih =>
      intro hl
      have hm := hl m List.mem_cons_self
      have e : xs[(((xs.length : Nat) : Int) - 1 + (m : Int) * -1).toNat]? = xs.reverse.toArray[m]? := by
        rw [show (((xs.length : Nat) : Int) - 1 + (m : Int) * -1).toNat = xs.length - 1 - m by omega, List.getElem?_toArray, List.getElem?_reverse hm]
      rw [List.filterMap_cons, List.filterMap_cons, e, ih fun k hk => hl k (List.mem_cons_of_mem _ hk)]
  exact key _ fun m hm => List.mem_range.mp hm
theorem sliceApplied_rev {sl : Addr} {t : Tok} {n : Nat} {Q : Int × Int × Nat → Shared → Prop} (hs : s.heap.IsSliceOf sl .none .none (.int (-1) t))
    (h : Q ((n : Int) - 1, -1, n) s) : wpAny (model prog w) A (Builtin.Slice.sliceApplied (.ref sl) (pure (n : Int))) Q E s := by
  obtain ⟨os, hos, hcs, hds⟩ := id hs
  unfold Builtin.Slice.sliceApplied Builtin.Slice.sliceFields
  refine wpAny_bind (wpAny_bind (wpAny_field hos hds (x := .none) rfl (wpAny_bind (wpAny_field hos hds (x := .none) rfl (wpAny_bind (wpAny_field hos hds (x := .int (-1) t) rfl (wpAny_pure ?_)))))))
  refine wpAny_bind (slicePart_int ?_)
  show wpAny _ _ (if ((-1 : Int) == 0) = true then _ else _) _ _ s
  rw [if_neg (by decide)]
  refine wpAny_bind (slicePart_none (wpAny_bind (slicePart_none (wpAny_bind (wpAny_pure ?_)))))
  show wpAny _ _ (match Builtin.Slice.sliceAdjust none none (-1) (n : Int) with | (lo, hi) => pure (lo, (-1 : Int), Builtin.Slice.slicePlaces lo hi (-1))) _ _ s
  rw [adjust_rev n]
  show wpAny _ _ (pure ((n : Int) - 1, (-1 : Int), Builtin.Slice.slicePlaces ((n : Int) - 1) (-1) (-1))) _ _ s
  rw [places_rev]
  exact wpAny_pure h
theorem getItem_tuple_rev {t sl : Addr} {u : Tok} {items : Array Value} {Q : Value → Shared → Prop} (ht : IsTup s.heap t items) (hs : s.heap.IsSliceOf sl .none .none (.int (-1) u))
    (h : Q (.ref s.heap.objs.size) { s with heap := s.heap.push { cls := .type "tuple", data := .seq items.toList.reverse.toArray } })
    (hsz : items.size ≤ sizeLine) : wpAny (model prog w) A (getItem (.ref t) (.ref sl)) Q E s := by
  have htake : sizeOk (.seq items.toList.reverse.toArray) := by
    show items.toList.reverse.toArray.size ≤ sizeLine
    rw [List.size_toArray, List.length_reverse, Array.length_toList]
    exact hsz
  obtain ⟨os, hos, hcs, hds⟩ := id hs
  have hTs : s.TypeIs (.ref sl) "slice" := ⟨os, hos, hcs⟩
  unfold getItem
  try with_reducible refine wpAny_holding ?_
  first | refine wpAny_bind (wpAny_pure ?_) | skip
  refine wpAny_bind (wpAny_sequenceKey ht.typeIs (by decide) ?_)
  refine wpAny_bind (wpAny_callSpecial?_slot (name := Str.ofString "__getitem__") ht.typeIs PyProof.Rows.slot_tuple_getitem
    (wpAny_call_entry PyProof.Rows.slot_tuple_getitem ht.typeIs PyProof.Rows.entry_tuple_getitem ?_ (PyProof.Rows.args_tuple_getitem _ _)))
  show wpAny _ _ (Builtin.Tuple.tupleItemsOf (.ref t) >>= _) _ _ s
  refine wpAny_bind (PyProof.Rows.tupleItemsOf_ ht ?_)
  refine wpAny_bind (wpAny_typeOf hTs ?_)
  rw [if_pos (by decide)]
  refine wpAny_bind (sliceApplied_rev hs ?_)
  have hno : ¬ ((((items.size : Int) - 1) == 0 && (-1 : Int) == 1 && items.size == items.size) = true) := by
    intro q
    rw [Bool.and_eq_true, Bool.and_eq_true] at q
    exact absurd q.1.2 (by decide)
  show wpAny _ _ (if (((items.size : Int) - 1) == 0 && (-1 : Int) == 1 && items.size == items.size) = true then _ else _) _ _ s
  rw [if_neg hno]
  have ep : ((List.range items.size).filterMap fun (m : Nat) => items[(((items.size : Nat) : Int) - 1 + (m : Int) * -1).toNat]?).toArray = items.toList.reverse.toArray := by
    have q := pick_rev items.toList
    rw [Array.length_toList] at q
    rw [← q]
    simp only [Array.getElem?_toList]
  rw [ep]
  first
    | exact wpAny_bind (m := Builtin.Tuple.tupleExact _) (wpAny_newObj_type (wpAny_pure ⟨_, rfl, wpAny_pure h⟩) htake)
    | exact wpAny_bind (m := Builtin.Tuple.tupleExact _) (wpAny_newObj_type (wpAny_bind (wpAny_pure (wpAny_pure ⟨_, rfl, wpAny_pure h⟩))) htake)
    | exact wpAny_bind (wpAny_bind (m := Builtin.Tuple.tupleExact _) (wpAny_newObj_type (wpAny_pure (wpAny_pure ⟨_, rfl, wpAny_pure h⟩)) htake))
    | exact wpAny_bind (wpAny_bind (m := Builtin.Tuple.tupleExact _) (wpAny_newObj_type (wpAny_pure ⟨_, rfl, wpAny_pure h⟩) htake))
end
def tRev (K : PySem.W.Frag) (te : TE) : TE := fun σ H Q => te σ H fun x H1 => (∃ a xs, x = .ref a ∧ SqL K H1 a xs ∧ ∀ p, H1 p = none → Q (.ref p) (upd H1 p (.lst xs.reverse))) ∨ ∃ a xs, x = .ref a ∧ SqT K H1 a xs ∧ NewT H1 xs.reverse Q
theorem pe_rev {X : Cx} {e : Expr} {te : TE} {k : Nat} {p1 p2 p3 pos : Pos} (he : PE X e te) : PE X (.Subscript e (.Slice none none (some (.UnaryOp .USub (.Constant (.int 1) k p1) p2)) p3) pos) (tRev X.K te) := by
  refine ⟨fun pins s σ H Q I h => ?_⟩
  refine Subscript_ (thn (he.run pins s σ H _ I h) fun v s1 ⟨x, H1, I1, r1, q1⟩ => ?_)
  have hst : PO X (some (.UnaryOp .USub (.Constant (.int 1) k p1) p2)) (tPart (tUn (rU fun i => .int (-i)) (tC (.int 1)))) := po_some (pe_un un_neg pe_int)
  refine wpAny_Slice (thn (po_none.run pins s1 σ H1 (fun o H2 => o = none ∧ H2 = H1) I1 ⟨rfl, rfl⟩) fun vl s2 ⟨l, H2, I2, pl, el, e2⟩ => ?_)
  subst el e2
  refine thn (po_none.run pins s2 σ H2 (fun o H3 => o = none ∧ H3 = H2) I2 ⟨rfl, rfl⟩) fun vu s3 ⟨u, H3, I3, pu, eu, e3⟩ => ?_
  subst eu e3
  refine thn (hst.run pins s3 σ H3 (fun o H4 => o = some (-1) ∧ H4 = H3) I3 ⟨1, rfl, -1, rfl, rfl, rfl⟩) fun vs s4 ⟨o, H4, I4, ps, eo, e4⟩ => ?_
  subst eo e4
  rcases q1 with ⟨a, xs, ex, hx, q⟩ | ⟨a, xs, ex, hx, q⟩
  · subst ex
    cases r1
    have I5 : Inv X pins σ H4 { s4 with heap := s4.heap.push { cls := .type "slice", data := .fields #[vl, vu, vs] } } := I4.kept (t' := s4.toks) fun b ob q => Heap.get?_push_of_some _ q
    obtain ⟨its, r, ht, hz⟩ := I5.list hx
    have hlen := r.length
    show wpAny (model X.prog X.w) X.A (subscriptTail e (.Slice none none (some (.UnaryOp .USub (.Constant (.int 1) k p1) p2)) p3) (.ref a) (.ref s4.heap.objs.size)) (EP X pins σ Q) X.xe { s4 with heap := s4.heap.push { cls := .type "slice", data := .fields #[vl, vu, vs] } }
    refine tail_any (ops := [.ref a, .ref s4.heap.objs.size]) ht.isList.typeIs (PySem.slot_list_getitem.lookup) ?_ (by with_unfolding_all rfl)
    refine wpAny_getItem_list_slice ht.isList (Heap.IsSliceOf.new _ vl vu vs) pl pu ps (by decide) ?_ (by rw [List.size_toArray]; omega)
    rw [PySem.W.krv_pick]
    refine ⟨.ref _, _, I5.laid (t' := s4.toks) (o := .lst xs.reverse) (fun b ob q => Heap.get?_push_of_some _ q) (Nat.le_refl _) ?_, rfl, q _ (I5.hok.fresh (Nat.le_refl _))⟩
    exact ⟨by rw [List.length_reverse]; exact hz, _, 0, r.reverse, Heap.get?_push_size _ rfl⟩
  · subst ex
    cases r1
    cases pl
    cases pu
    cases ps with
    | int i t =>
    have I5 : Inv X pins σ H4 { s4 with heap := s4.heap.push { cls := .type "slice", data := .fields #[.none, .none, .int (-1) t] } } := I4.kept (t' := s4.toks) fun b ob q => Heap.get?_push_of_some _ q
    obtain ⟨its, r, ht, hz⟩ := I5.tuple hx
    have hlen := r.length
    show wpAny (model X.prog X.w) X.A (subscriptTail e (.Slice none none (some (.UnaryOp .USub (.Constant (.int 1) k p1) p2)) p3) (.ref a) (.ref s4.heap.objs.size)) (EP X pins σ Q) X.xe { s4 with heap := s4.heap.push { cls := .type "slice", data := .fields #[.none, .none, .int (-1) t] } }
    refine tail_any (ops := [.ref a, .ref s4.heap.objs.size]) ht.typeIs (PyProof.Rows.slot_tuple_getitem.lookup) ?_ (by with_unfolding_all rfl)
    refine getItem_tuple_rev ht (Heap.IsSliceOf.new _ _ _ _) ?_ (by rw [List.size_toArray]; omega)
    exact newT I5 r.reverse (by rw [List.length_reverse]; exact hz) q
def revD : D → W D
  | .lst xs => ret (.lst xs.reverse)
  | .tup xs => ret (.tup xs.reverse)
  | _ => stuck
section
variable {G : PenK} {X : Cx} {Wx : WX}
theorem e_rev {e : Expr} {g : Env → W D} {k : Nat} {p1 p2 p3 pos : Pos} (he : E G X Wx e g) : E G X Wx (.Subscript e (.Slice none none (some (.UnaryOp .USub (.Constant (.int 1) k p1) p2)) p3) pos) (fun ρ => bnd (g ρ) revD) :=
  weakE (pe_rev he) fun σ H Q ⟨c, ρ, n, P, PX, I, q, hg, hx⟩ => tE.bnd I q hx fun d k v S' H' p g I' hx' r => by
    cases d with
    | lst xs =>
      obtain ⟨a, vs, rfl, r1, z, q1⟩ := r
      exact .inl ⟨a, vs, rfl, r1.sq, fun b hb => (hg.grow g).new p I' hb fun g4 => ⟨b, _, rfl, ⟨.inr rfl, upd_same⟩, by rw [List.length_reverse]; exact z, Reps.grow g4 _ _ (Reps.rev q1)⟩⟩
    | tup xs =>
      obtain ⟨a, vs, rfl, r1, z, q1⟩ := r
      exact .inr ⟨a, vs, rfl, r1.sq, fun b o hb hd => (hg.grow g).new p I' hb fun g4 => ⟨b, _, rfl, .inl ⟨.inr rfl, o, upd_same, hd⟩, by rw [List.length_reverse]; exact z, Reps.grow g4 _ _ (Reps.rev q1)⟩⟩
    | _ => exact p.elim
end
end PL

/-! Dicts of one's own, their keys; sorted texts; repeated lists. -/
namespace PL
open PySem PySem.Spec L2 PyProof.Rows

/-! ### pairs by key -/
def valD (kvs : List (Key × D)) (k : Key) : Option D := (kvs.find? fun kv => decide (kv.1 = k)).map (·.2)
def putD (kvs : List (Key × D)) (k : Key) (v : D) : List (Key × D) :=
  if (kvs.any fun kv => decide (kv.1 = k)) = true then kvs.map (fun kv => if kv.1 = k then (kv.1, v) else kv) else kvs ++ [(k, v)]
def keyD : D → Option Key
  | .int i => some (.inl i)
  | .str s => some (.inr s)
  | _ => none
def keyV : Key → D
  | .inl i => .int i
  | .inr s => .str s
section
variable {K : PySem.W.Frag} {S : Addr → Prop} {H : Hp}
theorem RepK.find : ∀ {kvs : List (Key × D)} {kws : List (Key × V)} (k : Key), RepK K S H kvs kws → (valD kvs k = none ∧ valV kws k = none) ∨ ∃ x v, valD kvs k = some x ∧ valV kws k = some v ∧ Rep K S H x v
  | [], _, k, h => by
    have e : _ = [] := h
    rw [e]
    exact .inl ⟨rfl, rfl⟩
  | (j, x) :: xs, _, k, h => by
    obtain ⟨v, ws, rfl, r, q⟩ := h
    by_cases e : j = k
    · refine .inr ⟨x, v, ?_, ?_, r⟩
      · simp [valD, List.find?_cons, e]
      · simp [valV, List.find?_cons, e]
    · have ih := RepK.find k q
      have e1 : valD ((j, x) :: xs) k = valD xs k := by simp [valD, List.find?_cons, e]
      have e2 : valV ((j, v) :: ws) k = valV ws k := by simp [valV, List.find?_cons, e]
      rw [e1, e2]
      exact ih
theorem RepK.any : ∀ {kvs : List (Key × D)} {kws : List (Key × V)} (k : Key), RepK K S H kvs kws → (kvs.any fun kv => decide (kv.1 = k)) = kws.any fun kv => decide (kv.1 = k)
  | [], _, k, h => by
    have e : _ = [] := h
    rw [e]
    rfl
  | (j, x) :: xs, _, k, h => by
    obtain ⟨v, ws, rfl, r, q⟩ := h
    rw [List.any_cons, List.any_cons, RepK.any k q]
def setK1 {α : Type} (k : Key) (x : α) : List (Key × α) → List (Key × α)
  | [] => []
  | (j, y) :: r => (if j = k then (j, x) else (j, y)) :: setK1 k x r
theorem setK1_eq {α : Type} (k : Key) (x : α) : ∀ l : List (Key × α), l.map (fun kv => if kv.1 = k then (kv.1, x) else kv) = setK1 k x l
  | [] => rfl
  | (j, y) :: r => by
    rw [List.map_cons, setK1_eq k x r]
    rfl
theorem RepK.mapP : ∀ {kvs : List (Key × D)} {kws : List (Key × V)} (k : Key) {x : D} {v : V}, RepK K S H kvs kws → Rep K S H x v → RepK K S H (setK1 k x kvs) (setK1 k v kws)
  | [], _, k, x, v, h, _ => by
    have e : _ = [] := h
    rw [e]
    rfl
  | (j, y) :: xs, _, k, x, v, h, rx => by
    obtain ⟨w, ws, rfl, r, q⟩ := h
    have ih := RepK.mapP k q rx
    unfold setK1
    by_cases e : j = k
    · rw [if_pos e, if_pos e]
      exact ⟨v, _, rfl, rx, ih⟩
    · rw [if_neg e, if_neg e]
      exact ⟨w, _, rfl, r, ih⟩
theorem RepK.app : ∀ {xs ys : List (Key × D)} {vs ws : List (Key × V)}, RepK K S H xs vs → RepK K S H ys ws → RepK K S H (xs ++ ys) (vs ++ ws)
  | [], ys, vs, ws, h, q => by
    have e : vs = [] := h
    rw [e]
    exact q
  | (k, x) :: xs, ys, vs, ws, h, q => by
    obtain ⟨v, us, rfl, r, t⟩ := h
    exact ⟨v, us ++ ws, rfl, r, RepK.app t q⟩
theorem RepK.put {kvs : List (Key × D)} {kws : List (Key × V)} (k : Key) {x : D} {v : V} (h : RepK K S H kvs kws) (r : Rep K S H x v) : RepK K S H (putD kvs k x) (putK kws k v) := by
  unfold putD putK
  rw [RepK.any k h]
  split
  · rw [setK1_eq, setK1_eq]
    exact RepK.mapP k h r
  · exact RepK.app h ⟨v, [], rfl, r, rfl⟩
theorem RepK.keys : ∀ {kvs : List (Key × D)} {kws : List (Key × V)}, RepK K S H kvs kws → (∀ kv ∈ kvs, ∀ s, kv.1 = .inr s → s.length ≤ sizeLine) → Reps K S H (kvs.map fun kv => keyV kv.1) (kws.map fun kv => kV kv.1)
  | [], _, h, _ => by
    have e : _ = [] := h
    rw [e]
    exact Reps.nil
  | (k, x) :: xs, _, h, hz => by
    obtain ⟨v, ws, rfl, r, q⟩ := h
    refine Reps.cons ?_ (RepK.keys q fun kv hk => hz kv (List.mem_cons_of_mem _ hk))
    cases k with
    | inl i => exact rfl
    | inr s => exact ⟨rfl, hz _ List.mem_cons_self s rfl⟩
theorem keyD_rep {d : D} {v : V} {k : Key} (h : keyD d = some k) (r : Rep K S H d v) : v = kV k := by
  cases d with
  | int i => cases h; exact r
  | str s => cases h; exact r.1
  | _ => cases h
end

/-! ### a name takes a new dict; a dict of one's own is changed -/
section
variable {G : PenK} {K : PySem.W.Frag} {c : C} {σ : L2.St} {ρ : Env} {H H' : Hp} {n k : Nt} {S' : Addr → Prop}
/-- a new object, at nobody's hands -/
theorem SI.bare {a : Addr} {o : HO} (I : SI G K c σ H ρ n) (hp : H a = none) : SI G K c σ (upd H a o) ρ n ∧ Grow c.S c.S H (upd H a o) ∧ FreshAt c n σ ρ a := by
  have ne : ∀ b, H b ≠ none → b ≠ a := fun b q e => q (e ▸ hp)
  have g : Grow c.S c.S H (upd H a o) := ⟨fun _ q => q, fun b q => upd_ne (ne b (I.dom b q))⟩
  refine ⟨⟨I.len, fun i sv e => (I.slots i sv e).grow g fun b eb ho => upd_ne (ne b (I.own_there ⟨i, sv, e, ho, eb⟩)), I.own, I.apart, fun b q => by rw [upd_ne (ne b (I.dom b q))]; exact I.dom b q,
    fun b u e q => by
      have := I.fr b u e q
      rw [upd_ne (ne b (by rw [this]; exact fun z => nomatch z))]
      exact this, fun q e => by
      obtain ⟨h1, h2, h3, h4, h5⟩ := I.pen q e
      obtain ⟨k1, k2⟩ := G.there h1
      exact ⟨G.dep h1 (upd_ne (ne _ k1)) (upd_ne (ne _ k2)), h2, h3, h4, h5⟩, I.no, fun q e => ⟨(I.tab q e).1, (I.tab q e).2.grow g (upd_ne (ne _ (I.tabN e).2.2))⟩, fun b nd e => ⟨(I.mu b nd e).1.grow g (upd_ne (ne _ (I.mu b nd e).1.there)), (I.mu b nd e).2⟩, I.mu0, I.mz⟩, g, ⟨⟨fun q => I.dom a q hp, I.freeOld hp, I.freeM hp⟩, fun i sv e ho es => I.own_there ⟨i, sv, e, ho, es⟩ hp⟩⟩
end

/-! ### expressions that give a new dict -/
section
variable (G : PenK) (X : Cx) (Wx : WX)
def GlK (c : C) (σ : L2.St) (ρ : Env) (H : Hp) (P : List (Key × D) → Nt → Prop) (Q : VK) : Prop :=
  ∀ xs k a vs S' H', P xs k → Grow c.S S' H H' → SI G X.K (c.to S') σ H' ρ k → H' a = some (.dK vs) → RepK X.K S' H' xs vs → FreshAt (c.to S') k σ ρ a → Q (.ref a) H'
def tKd (g : Env → W (List (Key × D))) : TE := fun σ H Q => ∃ c ρ n P PX, SI G X.K c σ H ρ n ∧ g ρ n P PX ∧ GlK G X c σ ρ H P Q ∧ OKx G X Wx c σ ρ H PX
def EK (e : Expr) (g : Env → W (List (Key × D))) : Prop := PE X e (tKd G X Wx g)
end
section
variable {G : PenK} {X : Cx} {Wx : WX} {γ : Type} {En : Enz γ} {ρ : Env} {rest : List Stmt} {m : W γ}
theorem EK.e {e : Expr} {g : Env → W (List (Key × D))} (h : EK G X Wx e g) : E G X Wx e (fun ρ => bnd (g ρ) fun xs => ret (.dic xs)) :=
  weakE h fun σ H Q ⟨c, ρ, n, P, PX, I, q, hg, hx⟩ => ⟨c, ρ, n, fun xs k => P (.dic xs) k, PX, I, q, fun xs k a vs S' H' p g I' e r f => by
    obtain ⟨I2, g2⟩ := I'.adopt f (by rw [e]; exact fun z => nomatch z)
    exact hg (.dic xs) k (.ref a) _ H' p (g.trans g2) I2 ⟨a, vs, rfl, ⟨.inr rfl, .inl e⟩, RepK.grow g2 _ _ r⟩, hx⟩
/-! ### reading dicts -/
def optW {α : Type} : Option α → W α
  | some a => ret a
  | none => stuck
theorem optW_inv {α : Type} {o : Option α} {n : Nt} {P : α → Nt → Prop} {PX : Exc → Nt → Prop} (h : optW o n P PX) : ∃ a, o = some a ∧ P a n := by
  cases o with
  | some a => exact ⟨a, rfl, h⟩
  | none => exact False.elim h
def dgetD (d k : D) : W D := match d with
  | .dic kvs => bnd (optW (keyD k)) fun kk => optW (valD kvs kk)
  | _ => stuck
theorem e_dget {o i : Expr} {pos : Pos} {go gi : Env → W D} (hu : X.A.units + 1 < cLine) (ho : E G X Wx o go) (hi : E G X Wx i gi) (hs : NoSl i := by intro _ _; rfl) : E G X Wx (.Subscript o i pos) (fun ρ => bnd (go ρ) fun x => bnd (gi ρ) fun y => dgetD x y) :=
  two_parts (r := fun x y H Q => ∃ a v, x = .ref a ∧ DGet H a y (some v) ∧ Q v H) (by
    intro c σ ρ H n P PX d e v w Q I rd re h hg hx
    cases d with
    | dic kvs =>
      obtain ⟨a, kws, rfl, ⟨_, r1⟩, r2⟩ := rd
      obtain ⟨kk, ek, h⟩ := optW_inv (show optW (keyD e) n (fun kk k => optW (valD kvs kk) k P PX) PX from h)
      obtain ⟨x, ex, h⟩ := optW_inv h
      obtain rfl := keyD_rep ek re
      rcases RepK.find kk r2 with ⟨z, _⟩ | ⟨y, v, z1, z2, r3⟩
      · rw [z] at ex; cases ex
      · rw [z1] at ex
        cases ex
        exact ⟨a, v, rfl, z2 ▸ .inl ⟨kws, kk, r1, rfl, rfl⟩, hg.at h I r3⟩
    | _ => exact False.elim h) ho hi (pe_dget hu ho hi hs)
/-- list(d) -/
def keysD : D → W (List D)
  | .dic kvs => grd (kvs.length ≤ sizeLine ∧ ∀ kv ∈ kvs, ∀ s, kv.1 = .inr s → s.length ≤ sizeLine) (ret (kvs.map fun kv => keyV kv.1))
  | _ => stuck
theorem o_listK {p pos : Pos} {e : Expr} {g : Env → W D} (hc : X.calm = true) (hm : X.mg "list" = none) (h : E G X Wx e g) (hg : Gl X "list" := by rfl) (he : starEach [e] X.env = (false, eval e X.env) :: starEach [] X.env := by rfl) :
    EO G X Wx (.Call (.Name "list" p) [e] [] pos) (fun ρ => bnd (g ρ) keysD) :=
  o_t1 hm PyProof.Rows.boot_list (call_listD hc) (r := fun x H Q => ∃ (a : Addr) (kvs : List (Key × V)), x = .ref a ∧ Rd H a (.dK kvs) ∧ ∀ p, H p = none → Q (.ref p) (upd H p (.lst (kvs.map fun kv => kV kv.1)))) (by
    intro c σ ρ H n P PX d v Q I r q hg hx
    cases d with
    | dic kvs =>
      obtain ⟨a, kws, rfl, ⟨_, r1⟩, r2⟩ := r
      obtain ⟨⟨z1, z2⟩, q⟩ := q
      exact ⟨a, kws, rfl, r1, fun b hb => hg.new q I hb (by rw [List.length_map]; exact z1) (RepK.keys r2 z2)⟩
    | _ => exact False.elim q) (fun x H Q ⟨a, kvs, e, r, q⟩ => ⟨a, kvs, by rw [e], r, q⟩) h hg (by decide) (by decide) he (by rfl)
/-! ### sorted texts -/
def leS (a b : Str) : Bool := !ltCps b.cps.toList a.cps.toList
def sortT (xs : List Str) : List Str := xs.mergeSort leS
theorem ltCps_iff : ∀ a b : List Nat, ltCps a b = true ↔ a < b
  | [], [] => by simp [ltCps]
  | [], _ :: _ => by simp [ltCps]
  | _ :: _, [] => by simp [ltCps]
  | x :: xs, y :: ys => by
    have ih := ltCps_iff xs ys
    rw [List.cons_lt_cons_iff]
    unfold ltCps
    simp only [Bool.or_eq_true, Bool.and_eq_true, decide_eq_true_eq, beq_iff_eq, ih]
theorem leS_iff (a b : Str) : leS a b = true ↔ ¬ b.cps.toList < a.cps.toList := by
  unfold leS
  rw [Bool.not_eq_true', ← Bool.not_eq_true, ltCps_iff]
theorem leS_trans (a b c : Str) (h1 : leS a b = true) (h2 : leS b c = true) : leS a c = true := by
  rw [leS_iff] at *
  exact List.le_trans (α := Nat) h1 h2
theorem leS_total (a b : Str) : (leS a b || leS b a) = true := by
  rw [Bool.or_eq_true, leS_iff, leS_iff]
  exact List.le_total (α := Nat) a.cps.toList b.cps.toList
theorem str_ext {a b : Str} (h : a.cps.toList = b.cps.toList) : a = b := by
  cases a; cases b
  congr 1
  exact Array.toList_inj.mp h
theorem leS_anti (a b : Str) (h1 : leS a b = true) (h2 : leS b a = true) : a = b := by
  rw [leS_iff] at *
  exact str_ext (List.le_antisymm (α := Nat) h1 h2)
theorem risingS_pw : ∀ (l : List Str) (p : Str), risingS p l = true → (p :: l).Pairwise fun a b => leS a b = true
  | [], p, _ => List.pairwise_cons.mpr ⟨fun _ h => (nomatch h), List.Pairwise.nil⟩
  | x :: r, p, h => by
    have h : (!ltCps x.cps.toList p.cps.toList && risingS x r) = true := h
    rw [Bool.and_eq_true] at h
    have ih := risingS_pw r x h.2
    refine List.pairwise_cons.mpr ⟨fun y hy => ?_, ih⟩
    rcases List.mem_cons.mp hy with rfl | hy
    · exact h.1
    · exact leS_trans p x y h.1 ((List.pairwise_cons.mp ih).1 y hy)
theorem sortedS_pw (l : List Str) (h : sortedS l = true) : l.Pairwise fun a b => leS a b = true := by
  cases l with
  | nil => exact List.Pairwise.nil
  | cons x r => exact risingS_pw r x h
theorem sortT_unique {xs ys : List Str} (hp : ys.Perm xs) (hs : sortedS ys = true) : ys = sortT xs := by
  refine (hp.trans (List.mergeSort_perm xs leS).symm).eq_of_pairwise (fun a b _ _ h1 h2 => leS_anti a b h1 h2) (sortedS_pw ys hs) ?_
  exact List.pairwise_mergeSort leS_trans leS_total xs
/-- sorted(e) of texts -/
def sortW : D → W (List D)
  | .lst xs => match txts xs with
    | some ss => grd (ss.length < 64) (ret ((sortT ss).map .str))
    | none => stuck
  | _ => stuck
theorem txts_len {K : PySem.W.Frag} {S : Addr → Prop} {H : Hp} : ∀ {xs : List D} {ss : List Str} {vs : List V}, txts xs = some ss → Reps K S H xs vs → ss.length = xs.length ∧ ∀ s ∈ ss, s.length ≤ sizeLine
  | [], _, _, e, h => by cases e; exact ⟨rfl, fun _ h => nomatch h⟩
  | x :: xs, _, _, e, h => by
    obtain ⟨v, ws, rfl, r, q⟩ := h
    cases x with
    | str s =>
      have e : (txts xs).map (s :: ·) = some _ := e
      cases e1 : txts xs with
      | none => rw [e1] at e; cases e
      | some ts =>
        rw [e1] at e
        cases e
        obtain ⟨h1, h2⟩ := txts_len e1 q
        refine ⟨by rw [List.length_cons, List.length_cons, h1], fun t ht => ?_⟩
        rcases List.mem_cons.mp ht with rfl | ht
        · exact r.2
        · exact h2 t ht
    | _ => cases e
theorem reps_strs {K : PySem.W.Frag} {S : Addr → Prop} {H : Hp} : ∀ {ss : List Str}, (∀ s ∈ ss, s.length ≤ sizeLine) → Reps K S H (ss.map .str) (ss.map .str)
  | [], _ => Reps.nil
  | s :: ss, h => Reps.cons ⟨rfl, h s List.mem_cons_self⟩ (reps_strs fun t ht => h t (List.mem_cons_of_mem _ ht))
theorem o_b1 {x : Str} {p pos : Pos} {id : String} {e : Expr} {r : V → Hp → VK → Prop} {r' : List V → Hp → VK → Prop} {g : Env → W D} {f : D → W (List D)} (hm : X.mg x = none) (hv : bootBuiltins x = some (.builtin id)) (o : CallR X (.builtin id) r') (v : V1O G X Wx f r) (hr : ∀ x H Q, r x H Q → r' [x] H Q) (h : E G X Wx e g)
    (hg : Gl X x) (hn : x ≠ "__name__") (hdb : (x == ("__debug__" : Str)) = false) (he : starEach [e] X.env = (false, eval e X.env) :: starEach [] X.env) (hpl : (backTo pos (starEach [] X.env)).any (·.1) = false) : EO G X Wx (.Call (.Name x p) [e] [] pos) (fun ρ => bnd (g ρ) f) :=
  weakE (pe_callB o hg hm hv (a_cons h a_nil he) hn hdb he hpl) fun σ H Q ⟨c, ρ, n, P, PX, I, q, hg, hx⟩ => tAr.bnd (f := fun ds => match ds with | [d] => f d | _ => stuck) I q hx fun ds k vs S' H' p g I' hx' rs => by
    cases ds with
    | nil => exact False.elim p
    | cons d ds =>
      cases ds with
      | cons _ _ => exact False.elim p
      | nil =>
        obtain ⟨u, rfl, r1⟩ := rs.one_inv
        exact hr u H' Q (v _ σ ρ H' k P PX d u Q I' r1 p (hg.grow g) hx')
theorem o_sortS {p pos : Pos} {e : Expr} {g : Env → W D} (hm : X.mg "sorted" = none) (h : E G X Wx e g) (hg : Gl X "sorted" := by rfl) (he : starEach [e] X.env = (false, eval e X.env) :: starEach [] X.env := by rfl) :
    EO G X Wx (.Call (.Name "sorted" p) [e] [] pos) (fun ρ => bnd (g ρ) sortW) :=
  o_b1 hm (by decide +kernel) cr_sortedS (r := fun x H Q => ∃ (a : Addr) (xs : List Str), x = .ref a ∧ SqL X.K H a (xs.map V.str) ∧ xs.length < 64 ∧ ∀ (ys : List Str) (p : Addr), ys.Perm xs → sortedS ys = true → H p = none → Q (.ref p) (upd H p (.lst (ys.map V.str)))) (by
    intro c σ ρ H n P PX d v Q I r q hg hx
    cases d with
    | lst xs =>
      obtain ⟨a, vs, rfl, r1, z, q1⟩ := r
      have q : (match txts xs with | some ss => grd (ss.length < 64) (ret ((sortT ss).map .str)) | none => stuck : W (List D)) n P PX := q
      cases e1 : txts xs with
      | none => rw [e1] at q; exact False.elim q
      | some ss =>
        rw [e1] at q
        obtain ⟨h64, q⟩ := q
        obtain rfl := txts_vals e1 q1
        obtain ⟨hl, hz⟩ := txts_len e1 q1
        refine ⟨a, ss, rfl, r1.sq, h64, fun ys b hp hs hb => ?_⟩
        obtain rfl := sortT_unique hp hs
        have hz2 : ∀ s ∈ sortT ss, s.length ≤ sizeLine := fun s hs => hz s (hp.mem_iff.mp hs)
        have hlen : ((sortT ss).map D.str).length ≤ sizeLine := by rw [List.length_map, hp.length_eq, hl]; exact z
        exact hg.new q I hb hlen (reps_strs hz2)
    | _ => exact False.elim q) (fun x H Q ⟨a, xs, e, h⟩ => ⟨a, xs, by rw [e], h⟩) h hg (by decide) (by decide) he (by rfl)
/-! ### xs * k -/
def repL (xs : List D) (k : Int) : List D := (List.replicate k.toNat xs).flatten
def repD : D → D → W D
  | .lst xs, .int k => grd (-(2 ^ 63) ≤ k ∧ k < 2 ^ 63 ∧ xs.length * k.toNat ≤ sizeLine) (ret (.lst (repL xs k)))
  | .tup xs, .int k => grd (xs ≠ [] ∧ 2 ≤ k ∧ k ≤ 1000 ∧ xs.length ≤ 1000) (ret (.tup (repL xs k)))
  | _, _ => stuck
theorem repL_len (xs : List D) (k : Int) : (repL xs k).length = xs.length * k.toNat := by
  unfold repL
  rw [List.length_flatten, List.map_replicate, List.sum_replicate_nat, Nat.mul_comm]
theorem Reps.rep {K : PySem.W.Frag} {S : Addr → Prop} {H : Hp} {xs : List D} {vs : List V} (h : Reps K S H xs vs) : ∀ n : Nat, Reps K S H (List.replicate n xs).flatten (List.replicate n vs).flatten
  | 0 => Reps.nil
  | n + 1 => by
    rw [List.replicate_succ, List.replicate_succ, List.flatten_cons, List.flatten_cons]
    exact Reps.app h (Reps.rep h n)
def rRepZ (K : PySem.W.Frag) : R2 := fun x y H Q => ∃ l k xs, x = .ref l ∧ y = .int k ∧ SqT K H l xs ∧ xs ≠ [] ∧ 2 ≤ k ∧ k ≤ 1000 ∧ xs.length ≤ 1000 ∧ NewT H (List.replicate k.toNat xs).flatten Q
theorem op_repZ : OpR X (binaryOp .Mult) (rRepZ X.K) := by
  intro pins s σ H x y v u Q I rx ry h
  obtain ⟨l, k, xs, rfl, rfl, hT, hne, h1, h2, hz, q⟩ := h
  cases rx
  obtain ⟨t, rfl⟩ := ry
  obtain ⟨its, r, ⟨⟨cls, dd, data, sl⟩, ho, hc, n, hd⟩, hs⟩ := I.tuple hT
  simp only at hc hd
  subst hc hd
  have hle : its.length = xs.length := r.length.symm
  have hn : its ≠ [] := fun e => hne (by
    rw [e] at hle
    exact List.eq_nil_of_length_eq_zero hle.symm)
  have hi : its.toArray.isEmpty = false := by
    cases its with
    | nil => exact absurd rfl hn
    | cons a b => rfl
  have hsz0 : its.toArray.size = xs.length := by rw [List.size_toArray, hle]
  have hm : ((its.toArray.size : Nat) : Int) * k ≤ 1000000 := by
    rw [hsz0]
    have a1 : ((xs.length : Nat) : Int) * k ≤ 1000 * k := Int.mul_le_mul_of_nonneg_right (by omega) (by omega)
    omega
  have flen : (List.replicate k.toNat its).flatten.length ≤ sizeLine := by
    rw [PyProof.Rows.lm_len_rep_flat, hle, sizeLine_eq]
    have a1 : k.toNat * xs.length ≤ 1000 * 1000 := Nat.mul_le_mul (by omega) hz
    omega
  have c0 : (decide (k < -(2 ^ 63)) || decide (k ≥ 2 ^ 63)) = false := by
    rw [decide_eq_false (by omega), decide_eq_false (by omega)] <;> rfl
  have c1 : (its.toArray.isEmpty || k == 1) = false := by
    rw [hi, Bool.false_or]
    exact beq_eq_false_iff_ne.mpr (by omega)
  have c2 : (decide (k ≤ 0) || its.toArray.isEmpty) = false := by
    rw [hi, Bool.or_false]
    exact decide_eq_false (by omega)
  have c4 : Builtin.Tuple.tupleTooMany (((its.toArray.size : Nat) : Int) * k) = false := by
    unfold Builtin.Tuple.tupleTooMany
    rw [sizeLine_eq]
    exact decide_eq_false (by omega)
  refine wpAny_binaryOp_repeat_ref (T := "tuple") (U := "int") (by decide) ⟨_, ho, rfl⟩ (fun s' => typeIs_int s' k t) noFill_tuple_mul F.fills_int_mul F.slot_int_rmul repeat_tuple F.slot_int_index.lookup
    (call_meets F.slot_int_rmul (typeIs_int s k t) F.entry_int_rmul (F.args_int_rmul_2 _ _) (int_rmul_tuple k t l its.toArray n dd sl)
      ⟨ho, rfl, ⟨_, ho, rfl⟩, call_meets F.slot_tuple_mul ⟨_, ho, rfl⟩ F.entry_tuple_mul (F.args_tuple_mul_2 _ _) (tuple_mulW l its.toArray n dd sl k t c0 c1 c2 (by omega) c4 (by rw [size_rep, List.size_toArray]; exact flen)) ⟨ho, ?_⟩⟩)
  rw [size_rep]
  exact newT I (r.rep k.toNat) (by rw [PyProof.Rows.lm_len_rep_flat, sizeLine_eq]; have a1 : k.toNat * xs.length ≤ 1000 * 1000 := Nat.mul_le_mul (by omega) hz; omega) q
theorem e_rep {a b : Expr} {pos : Pos} {ga gb : Env → W D} (ha : E G X Wx a ga) (hb : E G X Wx b gb) : E G X Wx (.BinOp a .Mult b pos) (fun ρ => bnd (ga ρ) fun x => bnd (gb ρ) fun y => repD x y) :=
  e_op (op_rep.or op_repZ) (by
    intro c σ ρ H n P PX d e v w Q I rd re h hg hx
    cases d with
    | lst xs =>
      cases e with
      | int k =>
        cases re
        obtain ⟨⟨z1, z2, z3⟩, h⟩ := h
        obtain ⟨a, vs, rfl, r1, z, q1⟩ := rd
        exact .inl ⟨a, k, vs, rfl, rfl, r1.2, z1, z2, by rw [q1.len]; exact z3, fun p hp => hg.new h I hp fun g => ⟨p, _, rfl, ⟨.inr rfl, upd_same⟩, by rw [repL_len]; exact z3, Reps.grow g _ _ (q1.rep _)⟩⟩
      | _ => exact False.elim h
    | tup xs =>
      cases e with
      | int k =>
        cases re
        obtain ⟨⟨z0, z1, z2, z3⟩, h⟩ := h
        obtain ⟨a, vs, rfl, r1, z, q1⟩ := rd
        have hl := q1.len
        refine .inr ⟨a, k, vs, rfl, rfl, r1.sq, fun e => z0 (List.eq_nil_of_length_eq_zero (by rw [← hl, e]; rfl)), z1, z2, by rw [hl]; exact z3, fun p o hp hd => hg.new h I hp fun g => ⟨p, _, rfl, .inl ⟨.inr rfl, o, upd_same, hd⟩, ?_, Reps.grow g _ _ (q1.rep _)⟩⟩
        rw [repL_len, sizeLine_eq]
        have : k.toNat ≤ 1000 := by omega
        calc xs.length * k.toNat ≤ 1000 * 1000 := Nat.mul_le_mul z3 this
          _ ≤ _ := by decide
      | _ => exact False.elim h
    | _ => cases e <;> exact False.elim h) ha hb
/-- xs.append(e), e known -/
theorem sg_appP {x : Str} {px pa pc pos : Pos} {e : Expr} {g : Env → W D} {d : D} {ρ' : Env} {xs : List D} (i L : Nat) (h : E G X Wx e g) (hx : ρ[i]? = some (.own xs)) (hg : g ρ = ret d) (hL : ρ.length = L) (hi : i < L) (hρ : ρ.set i (.own (xs ++ [d])) = ρ') (hr : SG G X Wx rest ρ' En m)
    (hN : X.N[i]? = some x := by rfl) (hv : Vis X.env.scope x := by first | exact Or.inl rfl | exact Or.inr (Or.inl rfl) | exact Or.inr (Or.inr rfl)) (hd : (x == ("__debug__" : Str)) = false := by decide)
    (hcd : (x == ("__classdict__" : Str)) = false := by decide) (hst : starEach [e] X.env = (false, eval e X.env) :: starEach [] X.env := by rfl)
    (hbase : attributeBase (.Name x px) "append" X.env (eval (.Name x px) X.env) = eval (.Name x px) X.env := by rfl)
    (hfew : ((backTo pc (starEach [e] X.env)).all (fun x => !x.1) && (backToKw pc (keywordEach [] X.env)).all (fun x => x.1.isSome)
      && decide (([e] : List Expr).length + ([] : List Keyword).length + (if ([] : List Keyword).isEmpty then 0 else 1) < 30)) = true := by rfl)
    (hline : (pa.endLine == pc.line) = true := by rfl) (hplain : (backTo pc (starEach [] X.env)).any (·.1) = false := by rfl) (hs : swapsWith (.Call (.Attribute (.Name x px) "append" pa) [e] [] pc) none pos.line X.env = pure false := by rfl) :
    SG G X Wx (.Expr (.Call (.Attribute (.Name x px) "append" pa) [e] [] pc) pos :: rest) ρ En (roomL xs m) :=
  sg_eq (sg_stmt (m0 := roomL xs (ret ())) (e := fun _ => ρ.set i (.own (xs ++ [d]))) (k := fun _ => m) (s_app i h hN hv hd hcd hst hbase hfew hline hplain hs) (by
    unfold ownAt
    rw [hx, hg]
    rfl) (fun _ _ _ => rfl) fun _ => by rw [hρ]; exact hr) rfl
theorem u1 {A : Around} {k : Nat} (r : Room k A) : A.units + 1 < cLine := by
  have := u64 r
  omega
end
end PL

/-! The plain side of mirrors by values: rows for simp, what draws give, sizes of what is shown. -/
namespace PL
open PySem PySem.Spec L2
section
variable {α β γ J : Type}
theorem Gen.bind {m : W α} {f : α → W β} {c d : Nat} {R : α → Prop} {Q : β → Prop} (h : Gen m c R) (k : ∀ a, R a → Gen (f a) d Q) : Gen (PL.bnd m f) (c + d) Q := Gen.bnd h k
theorem Gen.dr {b : Int} {f : Int → W β} {c : Nat} {Q : β → Prop} (h0 : 0 < b) (h1 : b < 1000000000000000000000000000000000000000000000000000000000000) (k : ∀ r : Int, 0 ≤ r → r < b → Gen (f r) c Q) : Gen (PL.bnd (drw b) f) (1 + c) Q := fun n P PX hn kk =>
  ⟨by omega, h0, h1, fun r j q1 q2 q3 q4 => k r q1 q2 ⟨j, n.μ⟩ P PX (by show j + c ≤ _; omega) fun a i hq h3 h4 => kk a i hq (Nat.le_trans q3 h3) (by have h4 : i ≤ j + c := h4; omega)⟩
theorem Gen.dr0 {b : Int} {c : Nat} {Q : Int → Prop} (h0 : 0 < b) (h1 : b < 1000000000000000000000000000000000000000000000000000000000000) (k : ∀ r : Int, 0 ≤ r → r < b → Q r) : Gen (drw b) 1 Q := fun n P PX hn kk =>
  ⟨by omega, h0, h1, fun r j q1 q2 q3 q4 => kk r j (k r q1 q2) q3 (by omega)⟩
theorem Gen.cond {b : Bool} {m m' : W α} {c d : Nat} {Q : α → Prop} (h1 : b = true → Gen m c Q) (h2 : b = false → Gen m' d Q) : Gen (if b = true then m else m') (Nat.max c d) Q := by
  cases b with
  | true => exact (h1 rfl).up (Nat.le_max_left _ _)
  | false => exact (h2 rfl).up (Nat.le_max_right _ _)
theorem Gen.is {m : W α} {a : α} {Q : α → Prop} (e : m = PL.ret a) (q : Q a) : Gen m 0 Q := e ▸ Gen.ret q
theorem room_pos {xs : List D} {m : W α} (h : xs.length < 1000000) : roomL xs m = m := grd_pos (by rw [sizeLine_eq]; omega) m
theorem fewN_pos {n : Nat} {m : W α} (h : n ≤ 1000000) : fewN n m = m := grd_pos (by rw [sizeLine_eq]; omega) m
theorem Gen.compP {f : α → W (Option D)} {c : Nat} {Q : D → Prop} : ∀ {xs : List α}, (∀ x ∈ xs, Gen (f x) c fun o => ∀ y, o = some y → Q y) → Gen (PL.compP f xs) (c * xs.length) fun ys => ys.length ≤ xs.length ∧ ∀ y ∈ ys, Q y
  | [], _ => Gen.ret ⟨Nat.le_refl _, fun _ h => nomatch h⟩
  | x :: xs, h => by
    have ih := Gen.compP (xs := xs) fun y hy => h y (List.mem_cons_of_mem _ hy)
    refine (Gen.bnd (h x List.mem_cons_self) (d := c * xs.length) fun o ho => ?_).up (by rw [List.length_cons, Nat.mul_add]; omega)
    cases o with
    | none => exact ih.to fun ys q => ⟨Nat.le_succ_of_le q.1, q.2⟩
    | some y =>
      refine (Gen.bnd (d := 0) ih fun (ys : List D) q => Gen.ret (a := y :: ys) (Q := fun ys : List D => ys.length ≤ (x :: xs).length ∧ ∀ y ∈ ys, Q y) ⟨Nat.succ_le_succ q.1, fun z hz => ?_⟩).up (Nat.le_refl _)
      rcases List.mem_cons.mp hz with rfl | hz
      · exact ho z rfl
      · exact q.2 z hz
theorem Gen.compM {f : α → W D} {c : Nat} {Q : D → Prop} : ∀ {xs : List α}, (∀ x ∈ xs, Gen (f x) c Q) → Gen (PL.compP (fun x => PL.bnd (f x) fun y => PL.ret (some y)) xs) (c * xs.length) fun ys => ys.length = xs.length ∧ ∀ y ∈ ys, Q y
  | [], _ => Gen.ret ⟨rfl, fun _ h => nomatch h⟩
  | x :: xs, h => by
    have ih := Gen.compM (xs := xs) fun y hy => h y (List.mem_cons_of_mem _ hy)
    show Gen (PL.bnd (PL.bnd (f x) _) _) _ _
    rw [bnd_bnd]
    refine (Gen.bnd (h x List.mem_cons_self) (d := c * xs.length) fun y hy => ?_).up (by rw [List.length_cons, Nat.mul_add]; omega)
    rw [bnd_ret]
    refine (Gen.bnd (d := 0) ih fun ys q => Gen.ret (Q := fun ys : List D => ys.length = (x :: xs).length ∧ ∀ y ∈ ys, Q y) ⟨by rw [List.length_cons, q.1, List.length_cons], fun z hz => ?_⟩).up (Nat.le_refl _)
    rcases List.mem_cons.mp hz with rfl | hz
    · exact hy
    · exact q.2 z hz
theorem Gen.map {f : α → W D} {xs : List α} {c : Nat} {Q : D → Prop} (n : Nat) (hn : xs.length ≤ n) (h : ∀ x ∈ xs, Gen (f x) c Q) (hz : n ≤ 1000000 := by decide) : Gen (mapP f xs) (c * n) fun ys => ys.length = xs.length ∧ ∀ y ∈ ys, Q y := by
  unfold mapP
  rw [fewN_pos (by omega)]
  exact Gen.quiet ((Gen.compM h).up (Nat.mul_le_mul_left _ hn))
/-- a loop with an invariant that may count the turns -/
theorem Gen.forI {bd : α → J → W (Step J γ)} {k : J → W γ} {c d n : Nat} {I : Nat → J → Prop} {Q : γ → Prop} : ∀ {xs : List α} {i : Nat} {j : J}, xs.length + i ≤ n → (∀ x ∈ xs, ∀ i j, i < n → I i j → Gen (bd x j) c fun o => match o with | .go j' => I (i + 1) j' | .bk j' => Gen (k j') d Q | .out g => Q g) →
    (∀ j, I (xs.length + i) j → Gen (k j) d Q) → I i j → Gen (forT bd k xs j) (c * xs.length + d) Q
  | [], i, j, _, _, hk, h0 => (hk j (by rw [List.length_nil, Nat.zero_add]; exact h0)).up (by omega)
  | x :: xs, i, j, hn, hb, hk, h0 => by
    rw [List.length_cons] at hn
    refine (Gen.bnd (hb x List.mem_cons_self i j (by omega) h0) (d := c * xs.length + d) fun o q => ?_).up (by rw [List.length_cons, Nat.mul_add]; omega)
    cases o with
    | go j' => exact Gen.forI (i := i + 1) (by omega) (fun y hy => hb y (List.mem_cons_of_mem _ hy)) (fun j hj => hk j (by rw [List.length_cons, show xs.length + 1 + i = xs.length + (i + 1) by omega]; exact hj)) q
    | bk j' => exact Gen.up (show Gen (k j') d Q from q) (by omega)
    | out g => exact (Gen.ret (show Q g from q)).up (Nat.zero_le _)
theorem Gen.forS {bd : α → J → W (Step J γ)} {k : J → W γ} {c d : Nat} {xs : List α} {j : J} (n : Nat) (I : J → Prop) {Q : γ → Prop} (hn : xs.length ≤ n) (h0 : I j) (hb : ∀ x ∈ xs, ∀ j, I j → Gen (bd x j) c fun o => match o with | .go j' => I j' | .bk j' => Gen (k j') d Q | .out g => Q g)
    (hk : ∀ j, I j → Gen (k j) d Q) : Gen (forT bd k xs j) (c * n + d) Q :=
  (Gen.forI (I := fun _ => I) (i := 0) (n := n) (by omega) (fun x hx _ j _ => hb x hx j) (fun j => hk j) h0).up (by have := Nat.mul_le_mul_left c hn; omega)
/-- a loop each of whose turns is known -/
def runS (st : α → J → Step J γ) : List α → J → Step J γ
  | [], j => .go j
  | x :: xs, j => match st x j with
    | .go j' => runS st xs j'
    | .bk j' => .bk j'
    | .out g => .out g
theorem forT_run {bd : α → J → W (Step J γ)} {k : J → W γ} {st : α → J → Step J γ} {I : J → Prop} : ∀ {xs : List α} {j : J}, (∀ x ∈ xs, ∀ j, I j → bd x j = PL.ret (st x j) ∧ ∀ j', st x j = .go j' → I j') → I j → forT bd k xs j = joinK k (runS st xs j)
  | [], _, _, _ => rfl
  | x :: xs, j, h, h0 => by
    obtain ⟨e, hi⟩ := h x List.mem_cons_self j h0
    show PL.bnd (bd x j) _ = _
    rw [e, bnd_ret]
    show forK k _ (st x j) = joinK k (match st x j with | .go j' => runS st xs j' | .bk j' => .bk j' | .out g => .out g)
    cases q : st x j with
    | go j' => exact forT_run (fun y hy => h y (List.mem_cons_of_mem _ hy)) (hi j' q)
    | bk j' => rfl
    | out g => rfl
/-- [f(x) for x in xs], f known -/
theorem compP_ret {f : α → W (Option D)} {g : α → Option D} : ∀ {xs : List α}, (∀ x ∈ xs, f x = PL.ret (g x)) → PL.compP f xs = PL.ret (xs.filterMap g)
  | [], _ => rfl
  | x :: xs, h => by
    have ih := compP_ret (xs := xs) fun y hy => h y (List.mem_cons_of_mem _ hy)
    show PL.bnd (f x) _ = _
    rw [h x List.mem_cons_self, bnd_ret, List.filterMap_cons]
    cases q : g x with
    | none => exact ih
    | some y =>
      show PL.bnd (PL.compP f xs) _ = _
      rw [ih]
      rfl
theorem mapP_ret {f : α → W D} {g : α → D} {xs : List α} (hn : xs.length ≤ 1000000) (h : ∀ x ∈ xs, f x = PL.ret (g x)) : mapP f xs = PL.ret (xs.map g) := by
  unfold mapP
  rw [fewN_pos hn, compP_ret (g := fun x => some (g x)) fun x hx => by rw [h x hx]; rfl, List.filterMap_eq_map']
  rfl
theorem rngZ_len (lo : Int) (n : Nat) : (rngZ lo n).length = n := by unfold rngZ; rw [List.length_map, List.length_range]
theorem rngZ_mem {lo : Int} {n : Nat} {x : Int} (h : x ∈ rngZ lo n) : lo ≤ x ∧ x < lo + n := by
  unfold rngZ at h
  obtain ⟨i, h1, h2⟩ := List.mem_map.mp h
  have := List.mem_range.mp h1
  omega
theorem rngI_ret {i : Int} (h : -1000000 ≤ i ∧ i ≤ 1000000) : rngI i = PL.ret (rngZ 0 i.toNat) := grd_pos (by unfold inR; omega) _
end
/-! ### rows -/
theorem eqB_str (a b : Str) : eqB (.str a) (.str b) = PL.ret (a == b) := by
  unfold eqB
  rw [grd_pos (.inr (.inr rfl))]
  simp [py, PyData.eqv]
theorem eqB_int (i j : Int) : eqB (.int i) (.int j) = PL.ret (decide (i = j)) := by
  unfold eqB
  rw [grd_pos (.inl ⟨rfl, rfl⟩)]
  simp only [py, PyData.eqv]
  rfl
theorem okD_nil : okD (.tup []) = true := by decide +kernel
theorem okD_lay {x : D} (h : okD x = true) : (py x).canLay0 = true := by
  unfold okD SeqAt.shaped at h
  rw [Bool.and_eq_true] at h
  exact h.1
theorem neB_same {x : D} (h : okD x = true) : neB x x = PL.ret false := by
  unfold neB
  rw [grd_pos (.inl ⟨h, h⟩), SeqAt.eqv_refl _ (okD_lay h)]
  rfl
theorem mulI_ok {i j : Int} (h : -1000000000000 ≤ i ∧ i ≤ 1000000000000) : mulI i j = PL.ret (i * j) := grd_pos (.inl (.inl ⟨by omega, by omega⟩)) _
theorem ixL {xs : List D} {i : Nat} (h : i < xs.length) : ixD (.lst xs) (.int i) = PL.ret xs[i] := ix_l (atI_nat (List.getElem?_eq_getElem h))
theorem ixLZ {xs : List D} {i : Int} (h0 : 0 ≤ i) (h : i < xs.length) : ∃ x ∈ xs, ixD (.lst xs) (.int i) = PL.ret x := by
  obtain ⟨n, rfl⟩ := Int.eq_ofNat_of_zero_le h0
  have hn : n < xs.length := by omega
  exact ⟨xs[n], List.getElem_mem hn, ixL hn⟩
/-- one of several, drawn -/
theorem Gen.pickL {β : Type} {xs : List D} {i : Int} {f : D → W β} {c : Nat} {Q : β → Prop} (h0 : 0 ≤ i) (h : i < xs.length) (k : ∀ y ∈ xs, Gen (f y) c Q) : Gen (PL.bnd (ixD (.lst xs) (.int i)) f) c Q := by
  obtain ⟨x, hx, e⟩ := ixLZ h0 h
  rw [e, bnd_ret]
  exact k x hx
theorem Gen.pickL0 {xs : List D} {i : Int} {Q : D → Prop} (h0 : 0 ≤ i) (h : i < xs.length) (k : ∀ y ∈ xs, Q y) : Gen (ixD (.lst xs) (.int i)) 0 Q := by
  obtain ⟨x, hx, e⟩ := ixLZ h0 h
  rw [e]
  exact Gen.ret (k x hx)
/-! ### sizes -/
def Sz (B k : Nat) (x : D) : Prop := Ok x ∧ (py x).bulk ≤ B ∧ (py x).depth ≤ k
theorem Sz.up {B B' k k' : Nat} {x : D} (h : Sz B k x) (h1 : B ≤ B') (h2 : k ≤ k') : Sz B' k' x := ⟨h.1, Nat.le_trans h.2.1 h1, Nat.le_trans h.2.2 h2⟩
def bulks (xs : List D) : Nat := PyData.bulkAll (pys xs)
theorem bulks_nil : bulks [] = 0 := by simp [bulks, pys, PyData.bulkAll]
theorem bulks_cons (x : D) (xs : List D) : bulks (x :: xs) = (py x).bulk + 1 + bulks xs := by simp [bulks, pys, PyData.bulkAll]
theorem bulks_len (xs : List D) : xs.length ≤ bulks xs := by
  induction xs with
  | nil => exact Nat.zero_le _
  | cons x xs ih => rw [bulks_cons, List.length_cons]; omega
theorem depths_le {k : Nat} {xs : List D} : PyData.depthAll (pys xs) ≤ k ↔ ∀ x ∈ xs, (py x).depth ≤ k := by
  induction xs with
  | nil => simp [pys, PyData.depthAll]
  | cons x xs ih => simp [pys, PyData.depthAll, Nat.max_le, ih]
/-- the parts of a tuple or list -/
def Parts (k : Nat) (xs : List D) : Prop := ∀ x ∈ xs, Ok x ∧ (py x).depth ≤ k
theorem Parts.up {j k : Nat} {xs : List D} (h : Parts j xs) (hk : j ≤ k) : Parts k xs := fun x hx => ⟨(h x hx).1, Nat.le_trans (h x hx).2 hk⟩
theorem Parts.app {k : Nat} {xs ys : List D} (h : Parts k xs) (h2 : Parts k ys) : Parts k (xs ++ ys) := fun x hx => (List.mem_append.mp hx).elim (h x) (h2 x)
theorem Parts.take {k : Nat} {xs : List D} (h : Parts k xs) (r : Nat) : Parts k (xs.take r) := fun x hx => h x (List.mem_of_mem_take hx)
theorem Parts.drop {k : Nat} {xs : List D} (h : Parts k xs) (r : Nat) : Parts k (xs.drop r) := fun x hx => h x (List.mem_of_mem_drop hx)
theorem Parts.nil {k : Nat} : Parts k [] := fun _ h => nomatch h
theorem Parts.cons {k : Nat} {x : D} {xs : List D} (h : Ok x ∧ (py x).depth ≤ k) (h2 : Parts k xs) : Parts k (x :: xs) := fun y hy => (List.mem_cons.mp hy).elim (fun e => e ▸ h) (h2 y)
theorem Sz.pt {B k : Nat} {x : D} (h : Sz B k x) : Ok x ∧ (py x).depth ≤ k := ⟨h.1, h.2.2⟩
theorem Sz.tup {B k : Nat} {xs : List D} (h : Parts k xs) (hb : bulks xs ≤ B) : Sz B (k + 1) (.tup xs) :=
  ⟨.tup fun x hx => (h x hx).1, by simpa [py, PyData.bulk, bulks] using hb, by simp only [py, PyData.depth]; exact Nat.succ_le_succ (depths_le.mpr fun x hx => (h x hx).2)⟩
theorem Sz.lst {B k : Nat} {xs : List D} (h : Parts k xs) (hb : bulks xs ≤ B) : Sz B (k + 1) (.lst xs) :=
  ⟨.lst fun x hx => (h x hx).1, by simpa [py, PyData.bulk, bulks] using hb, by simp only [py, PyData.depth]; exact Nat.succ_le_succ (depths_le.mpr fun x hx => (h x hx).2)⟩
theorem Sz.of_tup {B k : Nat} {xs : List D} (h : Sz B k (.tup xs)) : ∃ j, k = j + 1 ∧ Parts j xs ∧ bulks xs ≤ B := by
  obtain ⟨h1, h2, h3⟩ := h
  simp only [py, PyData.depth] at h3
  refine ⟨k - 1, by omega, fun x hx => ⟨?_, ?_⟩, by simpa [py, PyData.bulk, bulks] using h2⟩
  · cases h1 with
    | tup h => exact h x hx
  · exact depths_le.mp (show PyData.depthAll (pys xs) ≤ k - 1 by omega) x hx
theorem Sz.str {s : Str} {B k : Nat} (h : okD (.str s) = true) (h2 : s.length ≤ B) : Sz B k (.str s) := ⟨.str h, by simp only [py, PyData.bulk]; exact h2, by simp [py, PyData.depth]⟩
theorem Sz.int {i : Int} {B k : Nat} (h : i.natAbs < 10 ^ 61) : Sz B k (.int i) := ⟨.int h, by simp [py, PyData.bulk], by simp [py, PyData.depth]⟩
theorem Sz.bl {b : Bool} {B k : Nat} : Sz B k (.bl b) := ⟨.bl b, by simp [py, PyData.bulk], by simp [py, PyData.depth]⟩
theorem Sz.non {B k : Nat} : Sz B k .non := ⟨.non, by simp [py, PyData.bulk], by simp [py, PyData.depth]⟩
end PL

/-! Words, values, stores, states as data. -/
namespace PL
open PySem PySem.Spec L2
def lower (k : Nat) : Bool := decide (97 ≤ k ∧ k ≤ 122)
def wordB : D → Bool
  | .str s => decide (1 ≤ (s.length : Int)) && decide ((s.length : Int) ≤ 8) && s.cps.toList.all lower
  | _ => false
theorem bls_map {α : Type} (f : α → Bool) : ∀ xs : List α, bls (xs.map fun k => D.bl (f k)) = some (xs.map f)
  | [] => rfl
  | x :: xs => by
    show (bls (xs.map _)).map _ = _
    rw [bls_map f xs]
    rfl
theorem all_bls {α : Type} (f : α → Bool) (xs : List α) : allD (.lst (xs.map fun k => D.bl (f k))) = ret (.bl (xs.all f)) := by
  show (match bls (xs.map fun k => D.bl (f k)) with | some bs => PL.ret (D.bl (bs.all id)) | none => stuck : W D) = _
  rw [bls_map]
  congr 2
  induction xs with
  | nil => rfl
  | cons x l ih => simp [List.all_cons]
theorem abc : (Str.ofString "abcdefghijklmnopqrstuvwxyz").cps.toList = [97, 98, 99, 100, 101, 102, 103, 104, 105, 106, 107, 108, 109, 110, 111, 112, 113, 114, 115, 116, 117, 118, 119, 120, 121, 122] := by decide +kernel
theorem letters (k : Nat) : decide (k ∈ (Str.ofString "abcdefghijklmnopqrstuvwxyz").cps.toList) = lower k := by
  rw [abc]
  unfold lower
  apply decide_eq_decide.mpr
  simp only [List.mem_cons, List.not_mem_nil, or_false]
  omega
theorem in_abc (k : Nat) : inStr false (chD k) (.str (Str.ofString "abcdefghijklmnopqrstuvwxyz")) = ret (.bl (lower k)) := by
  show PL.ret (D.bl (decide (k ∈ (Str.ofString "abcdefghijklmnopqrstuvwxyz").cps.toList))) = _
  rw [letters]
theorem short8 {s : Str} (h : (s.length : Int) ≤ 8) : s.cps.toList.length ≤ 1000000 := by
  rw [Array.length_toList]
  have : s.length = s.cps.size := rfl
  omega
def numB : D → Bool
  | .int i => decide (-1000000000000000000 ≤ i) && decide (i ≤ 1000000000000000000)
  | _ => false
/-! ### what is drawn -/
def IsW (d : D) : Prop := ∃ s : Str, d = .str s ∧ wordB (.str s) = true
theorem wordB_signs (ks : List Nat) (h1 : 1 ≤ ks.length) (h2 : ks.length ≤ 8) (h : ∀ k ∈ ks, lower k = true) : wordB (.str ⟨ks.toArray⟩) = true := by
  have e : (Str.mk ks.toArray).length = ks.length := List.size_toArray
  simp only [wordB, Bool.and_eq_true, decide_eq_true_eq, List.all_eq_true, e]
  refine ⟨⟨by omega, by omega⟩, fun k hk => h k hk⟩
theorem IsW.ch {k : Nat} (h : lower k = true) : IsW (chD k) := ⟨⟨#[k]⟩, rfl, wordB_signs [k] (Nat.le_refl _) (by show 1 ≤ 8; decide) fun j hj => by rw [List.mem_singleton.mp hj]; exact h⟩
theorem IsW.ok {d : D} (h : IsW d) {k : Nat} : Sz 8 k d := by
  obtain ⟨s, rfl, h⟩ := h
  simp only [wordB, Bool.and_eq_true, decide_eq_true_eq, List.all_eq_true] at h
  refine Sz.str (okD_small fun k hk => ?_) (by omega)
  have := h.2 k hk
  simp only [lower, decide_eq_true_eq] at this
  omega
def IsN (d : D) : Prop := ∃ i : Int, d = .int i ∧ numB (.int i) = true
theorem IsN.ok {d : D} (h : IsN d) {B k : Nat} : Sz B k d := by
  obtain ⟨i, rfl, h⟩ := h
  simp only [numB, Bool.and_eq_true, decide_eq_true_eq] at h
  refine Sz.int ?_
  have e : (10 : Nat) ^ 61 = 10000000000000000000000000000000000000000000000000000000000000 := by decide
  rw [e]
  omega
/-! ### stores -/
def ltQ (a b : Str) : Bool := decide (a.cps.toList < b.cps.toList)
theorem leD_str (a b : Str) : leD (.str a) (.str b) = ret (.bl (!ltQ b a)) := rfl
def pairK : D → Option (Str × D)
  | .tup [.str a, y] => some (a, y)
  | _ => none
theorem pairK_some {x : D} {p : Str × D} (h : pairK x = some p) : x = .tup [.str p.1, p.2] := by
  unfold pairK at h
  split at h
  · cases h; rfl
  · cases h
/-- pairs with ascending words, whose second parts are as told -/
def ascB (v : D → Bool) : Str → List D → Bool
  | _, [] => true
  | last, x :: r => match pairK x with
    | some p => wordB (.str p.1) && ltQ last p.1 && v p.2 && ascB v p.1 r
    | none => false
theorem ascB_some {v : D → Bool} {last : Str} {x : D} {r : List D} {p : Str × D} (h : pairK x = some p) : ascB v last (x :: r) = (wordB (.str p.1) && ltQ last p.1 && v p.2 && ascB v p.1 r) := by
  show (match pairK x with | some p => wordB (.str p.1) && ltQ last p.1 && v p.2 && ascB v p.1 r | none => false) = _
  rw [h]
theorem ascB_none {v : D → Bool} {last : Str} {x : D} {r : List D} (h : pairK x = none) : ascB v last (x :: r) = false := by
  show (match pairK x with | some p => wordB (.str p.1) && ltQ last p.1 && v p.2 && ascB v p.1 r | none => false) = _
  rw [h]
def pairsB (v : D → Bool) : D → Bool
  | .tup xs => ascB v (Str.ofString "") xs
  | _ => false
def stP (pair j : D) : Step D D := match pairK pair, j with
  | some p, .str last => if (wordB (.str p.1) && ltQ last p.1) = true then .go (.str p.1) else .out (.bl false)
  | _, _ => .out (.bl false)
theorem run_pairs : ∀ (xs : List D) (last : Str), (joinK (fun _ => ret (.bl true)) (runS stP xs (.str last)) : W D) = ret (.bl (ascB (fun _ => true) last xs))
  | [], _ => rfl
  | x :: xs, last => by
    cases q : pairK x with
    | none =>
      rw [ascB_none q]
      unfold runS
      rw [show stP x (.str last) = .out (.bl false) by unfold stP; rw [q]]
      rfl
    | some p =>
      rw [ascB_some q]
      have e : stP x (.str last) = if (wordB (.str p.1) && ltQ last p.1) = true then .go (.str p.1) else .out (.bl false) := by unfold stP; rw [q]
      unfold runS
      rw [e]
      cases h : (wordB (.str p.1) && ltQ last p.1) with
      | true =>
        rw [if_pos rfl]
        show joinK _ (runS stP xs (.str p.1)) = _
        rw [run_pairs xs p.1, Bool.true_and, Bool.true_and]
      | false => rfl
theorem asc_shape {v : D → Bool} : ∀ {xs : List D} {last : Str}, ascB v last xs = true → ∀ x ∈ xs, ∃ a y, x = .tup [.str a, y] ∧ wordB (.str a) = true ∧ v y = true
  | [], _, _, x, hx => nomatch hx
  | z :: r, last, h, x, hx => by
    cases q : pairK z with
    | none => rw [ascB_none q] at h; cases h
    | some p =>
      rw [ascB_some q] at h
      simp only [Bool.and_eq_true] at h
      rcases List.mem_cons.mp hx with rfl | hx
      · exact ⟨p.1, p.2, pairK_some q, h.1.1.1, h.1.2⟩
      · exact asc_shape h.2 x hx
theorem asc_all (v : D → Bool) (w : D → Bool) (hw : ∀ a y, w (.tup [.str a, y]) = v y) : ∀ (xs : List D) (last : Str), ascB (fun _ => true) last xs = true → xs.all w = ascB v last xs
  | [], _, _ => rfl
  | z :: r, last, h => by
    cases q : pairK z with
    | none => rw [ascB_none q] at h; cases h
    | some p =>
      rw [ascB_some q] at h ⊢
      simp only [Bool.and_eq_true] at h
      have ih := asc_all v w hw r p.1 h.2
      rw [List.all_cons, ih, pairK_some q, hw, h.1.1.1, h.1.1.2]
      rfl
theorem asc_none (v : D → Bool) : ∀ (xs : List D) (last : Str), ascB (fun _ => true) last xs = false → ascB v last xs = false
  | [], _, h => by cases h
  | z :: r, last, h => by
    cases q : pairK z with
    | none => rw [ascB_none q]
    | some p =>
      rw [ascB_some q] at h ⊢
      cases h2 : (wordB (.str p.1) && ltQ last p.1) with
      | false => rfl
      | true =>
        rw [h2] at h
        rw [asc_none v r p.1 (by simpa using h), Bool.and_false]
/-! ### states -/
theorem cut_take (xs : List D) (r : Nat) : cutD xs none (some (r : Int)) = xs.take r := by
  unfold cutD
  rw [HT.sIx_none, HT.sIx_nat, List.drop_zero, Nat.sub_zero]
  by_cases h : r ≤ xs.length
  · rw [Nat.min_eq_left h]
  · rw [Nat.min_eq_right (by omega), List.take_length, List.take_of_length_le (by omega)]
theorem cut_drop (xs : List D) (r : Nat) : cutD xs (some (r : Int)) none = xs.drop r := by
  unfold cutD
  rw [HT.sIx_none, HT.sIx_nat]
  by_cases h : r ≤ xs.length
  · rw [Nat.min_eq_left h, List.take_of_length_le (by rw [List.length_drop]; omega)]
  · rw [Nat.min_eq_right (by omega), List.drop_length, List.drop_of_length_le (by omega), List.take_nil]
theorem tup_add (xs ys : List D) (h : xs.length + ys.length ≤ 1000000) : addD (.tup xs) (.tup ys) = ret (.tup (xs ++ ys)) := by
  show grd _ _ = _
  exact grd_pos (by rw [sizeLine_eq]; omega) _
theorem slD_tup (xs : List D) (lo hi : Option Int) : slD (.tup xs) lo hi = ret (.tup (cutD xs lo hi)) := rfl
theorem succ_cast (r : Nat) : ((r : Int) + 1) = ((r + 1 : Nat) : Int) := rfl
end PL

/-! Dicts with words as keys, and their pairs in order. -/
namespace PL
open PySem PySem.Spec L2
def keyS : Key → Str
  | .inr s => s
  | .inl _ => Str.ofString ""
def keysS (j : List (Key × D)) : List Str := j.map fun kv => keyS kv.1
/-- words for keys, none twice, values as told -/
def DI (v : D → Bool) (j : List (Key × D)) : Prop := (∀ kv ∈ j, ∃ s, kv.1 = .inr s ∧ wordB (.str s) = true ∧ v kv.2 = true) ∧ (j.map (·.1)).Nodup
theorem DI.nil {v : D → Bool} : DI v [] := ⟨fun _ h => (nomatch h), List.nodup_nil⟩
theorem setK1_keys (k : Key) (x : D) : ∀ j : List (Key × D), (setK1 k x j).map (·.1) = j.map (·.1)
  | [] => rfl
  | (a, y) :: r => by
    unfold setK1
    rw [List.map_cons, List.map_cons, setK1_keys k x r]
    split <;> simp [*]
theorem setK1_mem {k : Key} {x : D} : ∀ {j : List (Key × D)} {kv : Key × D}, kv ∈ setK1 k x j → kv ∈ j ∨ (kv = (k, x) ∧ k ∈ j.map (·.1))
  | [], _, h => nomatch h
  | (a, y) :: r, kv, h => by
    unfold setK1 at h
    rcases List.mem_cons.mp h with h | h
    · by_cases e : a = k
      · rw [if_pos e] at h
        exact .inr ⟨by rw [h, e], by rw [List.map_cons, e]; exact List.mem_cons_self⟩
      · rw [if_neg e] at h
        exact .inl (h ▸ List.mem_cons_self)
    · rcases setK1_mem h with h | ⟨h, h2⟩
      · exact .inl (List.mem_cons_of_mem _ h)
      · exact .inr ⟨h, by rw [List.map_cons]; exact List.mem_cons_of_mem _ h2⟩
theorem putD_has {j : List (Key × D)} {k : Key} {x : D} (h : k ∈ j.map (·.1)) : putD j k x = setK1 k x j := by
  unfold putD
  rw [if_pos, setK1_eq]
  obtain ⟨kv, h1, h2⟩ := List.mem_map.mp h
  exact List.any_eq_true.mpr ⟨kv, h1, decide_eq_true h2⟩
theorem putD_not {j : List (Key × D)} {k : Key} {x : D} (h : k ∉ j.map (·.1)) : putD j k x = j ++ [(k, x)] := by
  unfold putD
  rw [if_neg]
  intro q
  obtain ⟨kv, h1, h2⟩ := List.any_eq_true.mp q
  exact h (List.mem_map.mpr ⟨kv, h1, of_decide_eq_true h2⟩)
theorem putD_len (j : List (Key × D)) (k : Key) (x : D) : (putD j k x).length ≤ j.length + 1 := by
  by_cases h : k ∈ j.map (·.1)
  · rw [putD_has h]
    have := congrArg List.length (setK1_keys k x j)
    simp only [List.length_map] at this
    omega
  · rw [putD_not h, List.length_append]
    exact Nat.le_refl _
theorem DI.put {v : D → Bool} {j : List (Key × D)} {s : Str} {x : D} (h : DI v j) (hs : wordB (.str s) = true) (hx : v x = true) : DI v (putD j (.inr s) x) := by
  by_cases q : Sum.inr s ∈ j.map (·.1)
  · rw [putD_has q]
    refine ⟨fun kv hk => ?_, by rw [setK1_keys]; exact h.2⟩
    rcases setK1_mem hk with hk | ⟨rfl, _⟩
    · exact h.1 kv hk
    · exact ⟨s, rfl, hs, hx⟩
  · rw [putD_not q]
    refine ⟨fun kv hk => ?_, ?_⟩
    · rcases List.mem_append.mp hk with hk | hk
      · exact h.1 kv hk
      · rw [List.mem_singleton.mp hk]
        exact ⟨s, rfl, hs, hx⟩
    · rw [List.map_append]
      refine List.nodup_append.mpr ⟨h.2, by simp, fun a ha b hb => ?_⟩
      intro e
      simp at hb
      rw [e, hb] at ha
      exact q ha
theorem DI.mono {v w : D → Bool} {j : List (Key × D)} (h : DI v j) (hw : ∀ x, v x = true → w x = true) : DI w j :=
  ⟨fun kv hk => by obtain ⟨s, a, b, c⟩ := h.1 kv hk; exact ⟨s, a, b, hw _ c⟩, h.2⟩
theorem word_len {s : Str} (h : wordB (.str s) = true) : s.length ≤ 8 := by
  simp only [wordB, Bool.and_eq_true, decide_eq_true_eq] at h
  omega
theorem keysD_ok {v : D → Bool} {j : List (Key × D)} (h : DI v j) (hl : j.length ≤ 1000000) : keysD (.dic j) = ret ((keysS j).map .str) := by
  have e : (j.map fun kv => keyV kv.1) = (keysS j).map .str := by
    unfold keysS
    rw [List.map_map]
    refine List.map_congr_left fun kv hk => ?_
    obtain ⟨s, a, _⟩ := h.1 kv hk
    simp [a, keyV, keyS]
  show grd _ (ret (j.map fun kv => keyV kv.1)) = _
  rw [e]
  refine grd_pos ⟨by rw [sizeLine_eq]; omega, fun kv hk t et => ?_⟩ _
  obtain ⟨s, a, b, _⟩ := h.1 kv hk
  rw [a] at et
  cases et
  have := word_len b
  rw [sizeLine_eq]
  omega
theorem txts_strs : ∀ ss : List Str, txts (ss.map .str) = some ss
  | [] => rfl
  | s :: ss => by
    show (txts (ss.map _)).map _ = _
    rw [txts_strs ss]
    rfl
theorem sortW_ok {ss : List Str} (h : ss.length < 64) : sortW (.lst (ss.map .str)) = ret ((sortT ss).map .str) := by
  show (match txts (ss.map .str) with | some ss => grd (ss.length < 64) (ret ((sortT ss).map .str)) | none => stuck : W (List D)) = _
  rw [txts_strs]
  exact grd_pos h _
theorem keysS_nodup {v : D → Bool} {j : List (Key × D)} (h : DI v j) : (keysS j).Nodup := by
  have e : (keysS j).map Sum.inr = j.map (fun kv => kv.1) := by
    unfold keysS
    rw [List.map_map]
    refine List.map_congr_left fun kv hk => ?_
    obtain ⟨s, a, _⟩ := h.1 kv hk
    simp [a, keyS]
  have q := h.2
  rw [← e] at q
  exact List.Pairwise.imp (fun {a b} h e => h (congrArg Sum.inr e)) (List.pairwise_map.mp q)
theorem keysS_word {v : D → Bool} {j : List (Key × D)} (h : DI v j) {s : Str} (hs : s ∈ keysS j) : wordB (.str s) = true := by
  obtain ⟨kv, hk, rfl⟩ := List.mem_map.mp hs
  obtain ⟨s, a, b, _⟩ := h.1 kv hk
  rw [a]
  exact b
theorem valD_some {v : D → Bool} {j : List (Key × D)} (h : DI v j) {s : Str} (hs : s ∈ keysS j) : ∃ x, valD j (.inr s) = some x ∧ v x = true := by
  have q : (j.find? fun kv => decide (kv.1 = .inr s)).isSome := by
    rw [List.find?_isSome]
    obtain ⟨kv, hk, e⟩ := List.mem_map.mp hs
    obtain ⟨t, a, _⟩ := h.1 kv hk
    refine ⟨kv, hk, decide_eq_true ?_⟩
    rw [a] at e ⊢
    exact congrArg Sum.inr e
  obtain ⟨kv, e⟩ := Option.isSome_iff_exists.mp q
  refine ⟨kv.2, by unfold valD; rw [e]; rfl, ?_⟩
  obtain ⟨_, _, _, c⟩ := h.1 kv (List.mem_of_find?_eq_some e)
  exact c
def valS (j : List (Key × D)) (s : Str) : D := (valD j (.inr s)).getD .non
theorem dgetD_ok {v : D → Bool} {j : List (Key × D)} (h : DI v j) {s : Str} (hs : s ∈ keysS j) : dgetD (.dic j) (.str s) = ret (valS j s) := by
  obtain ⟨x, e, _⟩ := valD_some h hs
  show bnd (ret (Sum.inr s)) (fun kk => optW (valD j kk)) = _
  rw [bnd_ret, e]
  unfold valS
  rw [e]
  rfl
/-- a dict's pairs, by their keys in order -/
def pairsOf (j : List (Key × D)) : List D := (sortT (keysS j)).map fun s => .tup [.str s, valS j s]
theorem sortT_perm (ss : List Str) : (sortT ss).Perm ss := List.mergeSort_perm ss leS
theorem sortT_mem {ss : List Str} {s : Str} : s ∈ sortT ss ↔ s ∈ ss := (sortT_perm ss).mem_iff
theorem sortT_len (ss : List Str) : (sortT ss).length = ss.length := (sortT_perm ss).length_eq
theorem sortT_pw (ss : List Str) : (sortT ss).Pairwise fun a b => leS a b = true := List.pairwise_mergeSort leS_trans leS_total ss
theorem lt_of_le_ne {a b : Str} (h : leS a b = true) (hn : a ≠ b) : ltQ a b = true := by
  unfold ltQ
  refine decide_eq_true ?_
  rw [leS_iff] at h
  refine Classical.byContradiction fun q => hn (leS_anti a b ?_ ?_)
  · rw [leS_iff]; exact h
  · rw [leS_iff]; exact q
theorem sortT_lt {ss : List Str} (h : ss.Nodup) : (sortT ss).Pairwise fun a b => ltQ a b = true := by
  have h1 := sortT_pw ss
  have h2 : (sortT ss).Pairwise (· ≠ ·) := (sortT_perm ss).nodup_iff.mpr h
  exact (List.Pairwise.and h1 h2).imp fun ⟨a, b⟩ => lt_of_le_ne a b
theorem nil_lt {s : Str} (h : wordB (.str s) = true) : ltQ (Str.ofString "") s = true := by
  simp only [wordB, Bool.and_eq_true, decide_eq_true_eq] at h
  unfold ltQ
  refine decide_eq_true ?_
  have e : (Str.ofString "").cps.toList = [] := by decide +kernel
  rw [e]
  have hl : s.length = s.cps.toList.length := by rw [Array.length_toList]; rfl
  cases q : s.cps.toList with
  | nil => rw [q] at hl; simp at hl; omega
  | cons a l => exact List.nil_lt_cons a l
theorem asc_map {v : D → Bool} {f : Str → D} : ∀ {ss : List Str} {last : Str}, (∀ s ∈ ss, wordB (.str s) = true ∧ v (f s) = true) → (∀ s ∈ ss, ltQ last s = true) → (ss.Pairwise fun a b => ltQ a b = true) → ascB v last (ss.map fun s => .tup [.str s, f s]) = true
  | [], _, _, _, _ => rfl
  | s :: ss, last, h, h2, h3 => by
    rw [List.map_cons, ascB_some (p := (s, f s)) rfl]
    have q := h s List.mem_cons_self
    have h4 := List.pairwise_cons.mp h3
    rw [q.1, q.2, h2 s List.mem_cons_self, asc_map (fun t ht => h t (List.mem_cons_of_mem _ ht)) h4.1 h4.2]
    rfl
theorem pairsOf_asc {v : D → Bool} {j : List (Key × D)} (h : DI v j) : ascB v (Str.ofString "") (pairsOf j) = true := by
  refine asc_map (fun s hs => ?_) (fun s hs => nil_lt (keysS_word h (sortT_mem.mp hs))) (sortT_lt (keysS_nodup h))
  obtain ⟨x, e, hx⟩ := valD_some h (sortT_mem.mp hs)
  refine ⟨keysS_word h (sortT_mem.mp hs), ?_⟩
  unfold valS
  rw [e]
  exact hx
/-- tuple([(key, d[key]) for key in sorted(list(d))]) -/
theorem pairs_ret {v : D → Bool} {j : List (Key × D)} (h : DI v j) (hl : j.length < 64) :
    (bnd (keysD (.dic j)) fun xs => bnd (sortW (.lst xs)) fun xs1 => bnd (mapP (fun label1 => bnd (dgetD (.dic j) label1) fun y2 => ret (.tup [label1, y2])) xs1) fun xs2 => ret (.tup xs2) : W D) = ret (.tup (pairsOf j)) := by
  have hk : (keysS j).length < 64 := by unfold keysS; rw [List.length_map]; exact hl
  rw [keysD_ok h (by omega), bnd_ret, sortW_ok hk, bnd_ret, mapP_ret (g := fun k => match k with | .str s => .tup [.str s, valS j s] | _ => .non) (by rw [List.length_map, sortT_len]; omega) (fun x hx => by
    obtain ⟨s, hs, rfl⟩ := List.mem_map.mp hx
    rw [dgetD_ok h (sortT_mem.mp hs)]
    rfl), bnd_ret, List.map_map]
  rfl
/-- sizes of stores and maps -/
theorem asc_sz {v : D → Bool} (hv : ∀ x, v x = true → Sz 0 0 x) : ∀ {xs : List D} {last : Str}, ascB v last xs = true → Parts 1 xs ∧ bulks xs ≤ 11 * xs.length
  | [], _, _ => ⟨Parts.nil, by rw [bulks_nil]; exact Nat.zero_le _⟩
  | x :: xs, last, h => by
    cases q : pairK x with
    | none => rw [ascB_none q] at h; cases h
    | some p =>
      have ep := pairK_some q
      rw [ascB_some q] at h
      simp only [Bool.and_eq_true] at h
      obtain ⟨h1, h2⟩ := asc_sz hv h.2
      have w : Sz 8 0 (.str p.1) := IsW.ok ⟨p.1, rfl, h.1.1.1⟩
      have z := hv p.2 h.1.2
      have b : bulks [.str p.1, p.2] ≤ 10 := by
        rw [bulks_cons, bulks_cons, bulks_nil]
        have := w.2.1
        have := z.2.1
        omega
      have t : Sz 10 1 (.tup [.str p.1, p.2]) := .tup (.cons w.pt (.cons z.pt .nil)) b
      subst ep
      refine ⟨.cons t.pt h1, ?_⟩
      rw [bulks_cons, List.length_cons, Nat.mul_add]
      have := t.2.1
      omega
theorem numB_sz (x : D) (h : numB x = true) : Sz 0 0 x := by
  cases x with
  | int i => exact IsN.ok ⟨i, rfl, h⟩
  | _ => cases h
theorem pairsOf_len (j : List (Key × D)) : (pairsOf j).length = j.length := by
  unfold pairsOf keysS
  rw [List.length_map, sortT_len, List.length_map]
end PL

/-! {**a, **b} and dict(tuple of pairs), on the machine. -/
namespace PL
open PySem PySem.Spec L2
open Sem (wp)
section
variable {prog : Program} {w : World} {K : Type} [DecidableEq K] {knd : KeyKind prog w K} {A : Around} {E : Value → Shared → Prop} {s : Shared}
theorem dictPut_pairs {d : Addr} {kvs : List (K × Value)} {k : K} {key v : Value} {Q : Unit → Shared → Prop} (hkey : knd.is k key = true) (hm : s.heap.DictOf knd d kvs)
    (hQ : ∀ h', h'.DictOf knd d (stored kvs k v) → Heap.SameBut d s.heap h' → Q () { s with heap := h' }) (hsz : kvs.length ≤ sizeLine) :
    wpAny (model prog w) A (dictPut d (knd.hash k) key v) Q E s := by
  obtain ⟨o, es, ep, ho, hc, hd, hk, hp, hn⟩ := hm
  have hes : es.size ≤ sizeLine := by
    have e1 := hp.length
    have e2 : es.toList.length = es.size := by simp
    omega
  unfold dictPut
  refine wpAny_bind (wpAny_dictFind_of hkey ho hd hk ?_)
  have hidx : (es.findIdx? fun e => knd.is k e.key) = kvs.findIdx? fun kv => decide (kv.1 = k) := by
    rw [← hp.findIdx k]; obtain ⟨l⟩ := es; simp
  cases hi : es.findIdx? fun e => knd.is k e.key with
  | some i =>
    refine wpAny_updateDict ho hd (hQ _ ⟨_, _, ep, Heap.get?_update_self _ ho (Obj.isFreed_of_dict (Obj.data_mapDict hd _)),
      hc.mapDict _, Obj.data_mapDict hd _, hk.modify _ _, ?_, ?_⟩ (Heap.SameBut.update ..))
    · rw [stored, if_pos (any_of_findIdx_some (hidx ▸ hi))]
      have hl : (es.toList.findIdx? fun e => knd.is k e.key) = some i := by rw [← hi]; obtain ⟨l⟩ := es; simp
      have := hp.modify hn hl v
      obtain ⟨l⟩ := es
      simpa using this
    · rw [stored, if_pos (any_of_findIdx_some (hidx ▸ hi)), keys_map_store]; exact hn
  | none =>
    have hnot : k ∉ kvs.map (·.1) := not_mem_of_findIdx_none (hidx ▸ hi)
    have hany : ¬ (kvs.any fun kv => decide (kv.1 = k)) = true := by
      rw [List.any_eq_true]; rintro ⟨kv, hkv, he⟩
      exact hnot (List.mem_map.mpr ⟨kv, hkv, of_decide_eq_true he⟩)
    refine wpAny_updateDictKeys (hz := hes) ho hd (hQ _ ⟨_, _, ep + 1, Heap.get?_update_self _ ho (Obj.isFreed_of_dict (Obj.data_mapDictKeys hd _)),
      hc.mapDictKeys _, Obj.data_mapDictKeys hd _, hk.push hkey _, ?_, ?_⟩ (Heap.SameBut.update ..))
    · rw [stored, if_neg hany]
      have := hp.append hkey (knd.hash k) v
      obtain ⟨l⟩ := es
      simpa using this
    · rw [stored, if_neg hany, List.map_append, List.nodup_append]
      refine ⟨hn, by simp, ?_⟩
      intro a ha b hb
      simp only [List.map_cons, List.map_nil, List.mem_singleton] at hb
      subst hb
      exact fun e => hnot (e ▸ ha)
theorem mergeMapping_pairs {d o : Addr} {kvs more : List (K × Value)} {Q : Unit → Shared → Prop} (hdo : d ≠ o) (hoS : (o == sysModules) = false)
    (hd : s.heap.DictOf knd d kvs) (ho : s.heap.DictOf knd o more)
    (hQ : ∀ h', h'.DictOf knd d (merged kvs more) → Heap.SameBut d s.heap h' → Q () { s with heap := h' })
    (hsz : kvs.length + more.length ≤ sizeLine) :
    wpAny (model prog w) A (mergeMapping d (.ref o) false) Q E s := by
  obtain ⟨od, esd, epd, hod, hcd, hdd, hkd, hpd, hnd⟩ := id hd
  obtain ⟨oo, eso, epo, hoo, hco, hdo', hko, hpo, hno⟩ := id ho
  have hlen : more.length = eso.size := by rw [← hpo.length]; simp
  have loop : wpAny (model prog w) A (do
      let l0 ← dictEntries o
      let epoch ← dictEpoch o
      forIn (List.range l0.size) PUnit.unit fun i (_ : PUnit) => (do
        let l ← dictEntries o
        match l[i]? with
          | some e => do
            holding [e.key, e.val] (dictPut d e.hash e.key e.val)
            let ep ← dictEpoch o
            if (ep != epoch) = true then do
                (unsupported "dict.changed-during-merge" : Sem PUnit)
                pure (ForInStep.yield PUnit.unit)
              else pure (ForInStep.yield PUnit.unit)
          | _ => do
            (unsupported "dict.changed-during-merge" : Sem PUnit)
            pure (ForInStep.yield PUnit.unit) : Sem (ForInStep PUnit))
      pure ()) Q E s := by
    refine wpAny_bind (wpAny_dictEntries hoo hdo' ?_)
    refine wpAny_bind (wpAny_dictEpoch hoo hdo' ?_)
    refine wpAny_bind ?_
    rw [List.range_eq_range']
    refine wpAny_forIn_list _
      (fun rest _ s' => ∃ h' i, s' = { s with heap := h' } ∧ rest = List.range' i (eso.size - i) ∧ i ≤ eso.size ∧ h'.DictOf knd d (merged kvs (more.take i)) ∧ h'.get? o = some oo ∧ Heap.SameBut d s.heap h')
      _ ?_ ?_ _ _ ⟨s.heap, 0, rfl, by simp, Nat.zero_le _, by simpa [merged] using hd, hoo, Heap.SameBut.refl _ _⟩
    · rintro x rest b s' ⟨h', i, rfl, hr, hi, hd', hoo', hs'⟩
      have hlt : i < eso.size := by
        rcases Nat.lt_or_ge i eso.size with h | h
        · exact h
        · rw [Nat.sub_eq_zero_of_le h] at hr; simp at hr
      obtain ⟨rfl, hrest⟩ : x = i ∧ rest = List.range' (i + 1) (eso.size - (i + 1)) := by
        have e : eso.size - i = (eso.size - (i + 1)) + 1 := by omega
        rw [e, List.range'_succ] at hr
        injection hr with h1 h2
        exact ⟨h1, h2⟩
      refine wpAny_bind (wpAny_dictEntries hoo' hdo' ?_)
      rw [Array.getElem?_eq_getElem hlt]
      obtain ⟨kv, hkv⟩ : ∃ kv, more[x]? = some kv := ⟨more[x]'(by rw [hlen]; exact hlt), List.getElem?_eq_getElem _⟩
      obtain ⟨k, v⟩ := kv
      obtain ⟨hkey, hval⟩ := hpo.get? (e := eso[x]) (by simp [hlt]) hkv
      obtain ⟨k', hkey', hhash⟩ := hko eso[x] (Array.getElem_mem hlt)
      obtain rfl : k' = k := knd.inj _ _ _ hkey' hkey
      show wpAny _ _ (holding [eso[x].key, eso[x].val] (dictPut d eso[x].hash eso[x].key eso[x].val) >>= _) _ _ _
      rw [hhash, hval]
      have hmx : (merged kvs (more.take x)).length ≤ sizeLine := by
        have e1 := merged_length_le kvs (more.take x)
        have e2 : (more.take x).length ≤ more.length := by rw [List.length_take]; omega
        omega
      refine wpAny_bind (wpAny_holding (dictPut_pairs (hsz := hmx) hkey hd' fun h'' hd'' hs'' => ?_))
      have hoo'' : h''.get? o = some oo := (hs''.2 o (Ne.symm hdo)).trans hoo'
      refine wpAny_bind (wpAny_dictEpoch hoo'' hdo' ?_)
      rw [if_neg (by simp)]
      exact wpAny_pure ⟨h'', x + 1, rfl, hrest, hlt, by rw [merged_take_succ kvs more x (k', v) hkv]; exact hd'', hoo'', hs'.trans hs''⟩
    · rintro b s' ⟨h', i, rfl, hr, hi, hd', hoo', hs'⟩
      have hin : i = eso.size := by
        rcases Nat.lt_or_ge i eso.size with h | h
        · have e : eso.size - i = (eso.size - (i + 1)) + 1 := by omega
          rw [e, List.range'_succ] at hr; exact nomatch hr
        · exact Nat.le_antisymm hi h
      refine wpAny_pure (hQ h' ?_ hs')
      rw [hin, ← hlen, List.take_length] at hd'; exact hd'
  unfold mergeMapping
  refine wpAny_bind (wpAny_isInstance ho.typeIs isSubtype_dict_dict ?_)
  rw [if_pos rfl]
  refine wpAny_bind (wpAny_specialOf ho.typeIs F.slot_dict_iter.lookup ?_)
  refine wpAny_bind (wpAny_pure ?_)
  simp only [beq_self_eq_true]
  rw [if_neg (by rw [hoS]; exact Bool.false_ne_true)]
  refine wpAny_bind (wpAny_dictEntries hod hdd ?_)
  split
  · refine wpAny_bind (wpAny_dictEntries hoo hdo' ?_)
    refine wpAny_bind ?_
    rw [← Array.forIn_toList]
    refine wpAny_forIn_list _ (fun rest _ s' => s' = s ∧ ∀ e ∈ rest, e ∈ eso.toList) _ ?_ ?_ _ _ ⟨rfl, fun _ h => h⟩
    · rintro e rest b s' ⟨rfl, hr⟩
      obtain ⟨k', hkey', _⟩ := hko e (by simpa using hr e List.mem_cons_self)
      have nb := knd.byValue k' _ hkey'
      cases q : e.key with
      | ref a => rw [q] at nb; cases nb
      | _ => exact wpAny_pure ⟨rfl, fun e h => hr e (List.mem_cons_of_mem _ h)⟩
    · rintro b s' ⟨rfl, _⟩
      exact loop
  · exact loop
end
end PL

/-! {**a, **b} over the hand layer's heap. -/
namespace PL
open PySem PySem.Spec L2
section
variable {X : Cx}
def tOver (t1 t2 : TE) : TE := fun σ H Q => ∀ p, H p = none → t1 σ (upd H p (.dK [])) fun x1 H1 => ∃ a1 k1, x1 = V.ref a1 ∧ Rd H1 a1 (.dK k1) ∧ a1 ≠ p ∧ H1 p = some (.dK []) ∧
  t2 σ (upd H1 p (.dK (mergeK [] k1))) fun x2 H2 => ∃ a2 k2, x2 = V.ref a2 ∧ Rd H2 a2 (.dK k2) ∧ a2 ≠ p ∧ H2 p = some (.dK (mergeK [] k1)) ∧ (mergeK [] k1).length + k2.length ≤ sizeLine ∧
  Q (.ref p) (upd H2 p (.dK (mergeK (mergeK [] k1) k2)))
theorem merge_at {pins : List (Addr × Obj)} {σ : L2.St} {H : Hp} {s : Shared} {A : Around} {E : Value → Shared → Prop} {p a : Addr} {k0 k1 : List (Key × V)} {Q : Unit → Shared → Prop} (I : Inv X pins σ H s) (e : H p = some (.dK k0)) (r : Rd H a (.dK k1)) (ne : a ≠ p) (hz : k0.length + k1.length ≤ sizeLine)
    (h : ∀ s', Inv X pins σ (upd H p (.dK (mergeK k0 k1))) s' → Q () s') : wpAny (model X.prog X.w) A (mergeMapping p (.ref a) false) Q E s := by
  obtain ⟨_, hp, vs0, r0, d0⟩ := dk_of I.hok e
  obtain ⟨_, ha, vs1, r1, d1⟩ := dk_rd I.hok r
  refine mergeMapping_pairs (knd := mixKind X.prog X.w) (Ne.symm ne) ha d0 d1 (fun h' dd hs => ?_) (by rw [← r0.length, ← r1.length]; exact hz)
  have hl : (mergeK k0 k1).length ≤ sizeLine := Nat.le_trans (length_mergeK k1 k0) hz
  have he : ∃ q, h'.get? p = some q := let ⟨q, _, _, hq, _⟩ := dd; ⟨q, hq⟩
  exact h { s with heap := h' } (d_write (t' := s.toks) I (by rw [e]; exact True.intro) hs he (dk_new hl hp (r1.merge r0) dd))
theorem pe_over {e1 e2 : Expr} {pos : Pos} {t1 t2 : TE} (h1 : PE X e1 t1) (h2 : PE X e2 t2) : PE X (.Dict [none, none] [e1, e2] pos) (tOver t1 t2) := by
  refine ⟨fun pins s σ H Q I q => ?_⟩
  have hn := I.hok.fresh (Nat.le_refl s.heap.objs.size)
  have I1 := I.laid (a := s.heap.objs.size) (o := .dK []) (h' := s.heap.push { cls := .type "dict", data := .dict #[] }) (t' := s.toks) (fun _ _ q => Heap.get?_push_of_some _ q) (Nat.le_refl _) (dk_empty s.heap I.big)
  have q1 := q _ hn
  rw [arm_eval_Dict]
  refine wpAny_bind (wpAny_standAt ?_)
  show wpAny _ _ (dictDisplay [(none, do let x ← eval e1 X.env; standAt pos; pure x), (none, do let x ← eval e2 X.env; standAt pos; pure x)]) _ _ _
  unfold dictDisplay
  simp only [List.forIn_cons, List.forIn_nil, List.isEmpty_nil, if_true]
  refine wpAny_bind ?_
  refine wpAny_bind ?_
  refine wpAny_bind (wpAny_pure ?_)
  refine wpAny_bind (wpAny_alloc ?_)
  refine wpAny_bind (wpAny_holding (wpAny_bind (thn (h1.run pins _ σ _ _ I1 q1) fun u1 s1 ⟨x1, H1, J1, rx1, a1, k1, ex1, rd1, ne1, e1, q2⟩ => wpAny_bind (wpAny_standAt (wpAny_pure ?_)))))
  subst ex1
  obtain rfl : u1 = Value.ref a1 := rx1
  have hz1 : ([] : List (Key × V)).length + k1.length ≤ sizeLine := by
    have := (dk_rd J1.hok rd1).1
    rw [List.length_nil]; omega
  refine wpAny_bind (wpAny_onRaise (wpAny_tryCatch (wpAny_onRaise (wpAny_holding (merge_at J1 e1 rd1 ne1 hz1 fun s2 J2 => ?_)))))
  refine wpAny_pure ?_
  dsimp only
  refine wpAny_bind ?_
  simp only [List.isEmpty_nil, if_true]
  refine wpAny_bind (wpAny_pure ?_)
  dsimp only
  refine wpAny_bind (wpAny_pure ?_)
  refine wpAny_bind (wpAny_holding (wpAny_bind (thn (h2.run pins _ σ _ _ J2 q2) fun u2 s3 ⟨x2, H3, J3, rx2, a2, k2, ex2, rd2, ne2, e3, hz2, q3⟩ => wpAny_bind (wpAny_standAt (wpAny_pure ?_)))))
  subst ex2
  obtain rfl : u2 = Value.ref a2 := rx2
  refine wpAny_bind (wpAny_onRaise (wpAny_tryCatch (wpAny_onRaise (wpAny_holding (merge_at J3 e3 rd2 ne2 hz2 fun s4 J4 => ?_)))))
  refine wpAny_pure ?_
  dsimp only
  refine wpAny_pure ?_
  simp only [List.isEmpty_nil, if_true]
  refine wpAny_bind (wpAny_pure ?_)
  dsimp only
  exact wpAny_pure ⟨.ref s.heap.objs.size, _, J4, rfl, q3⟩
end
end PL

/-! dict(..), d.get(..), {**a, **b}, lists made over a dict's keys. -/
namespace PL
open PySem PySem.Spec L2
/-! ### dict(tuple of pairs) -/
def PlainT (K : PySem.W.Frag) (H : Hp) (a : Addr) (xs : List V) : Prop := PlT H a xs ∨ WrT K a xs
section
variable {X : Cx} {pins : List (Addr × Obj)} {σ : L2.St} {H : Hp} {s : Shared}
theorem plainT_at {a : Addr} {xs : List V} (I : Inv X pins σ H s) (h : PlainT X.K H a xs) : ∃ (o : Obj) (n : Nat) (its : List Value), s.heap.get? a = some o ∧ o.cls = .type "tuple" ∧ o.dict = none ∧ o.data = .seq its.toArray n ∧ Vals xs its ∧ xs.length ≤ sizeLine := by
  rcases h with ⟨o, e, d⟩ | ⟨o, its, n, h1, h2, h3, h4, h5, h6⟩
  · obtain ⟨hg, z, its, r, ⟨o', ho, hc, n, hd⟩⟩ := I.hok a _ e
    rw [hg] at ho
    cases ho
    exact ⟨o, n, its, hg, hc, d, hd, r, z⟩
  · refine ⟨o, n, its.toList, I.kIn a o h1, h2, h3, by simpa using h4, h6, ?_⟩
    have := h6.length
    simp only [Array.length_toList] at this
    omega
theorem pairs_psv (I : Inv X pins σ H s) : ∀ {ps : List Addr} {kvs : List (Key × V)}, Paired (fun p kv => SqT X.K H p [kV kv.1, kv.2]) ps kvs →
    ∃ (psv : List (Value × Value)) (prs : List (Key × Value)), L2.KV kvs prs ∧ psv.length = ps.length ∧ prs.length = ps.length ∧ ∀ (j : Nat) (k v : Value), psv[j]? = some (k, v) → ∃ (b : Addr) (q : Key), ps[j]? = some b ∧ PairAt s.heap b k v ∧ prs[j]? = some (q, v) ∧ keyIs q k = true
  | _, _, .nil => ⟨[], [], .nil, rfl, rfl, fun j k v e => by simp at e⟩
  | _, _, .cons (a := p) (b := kv) h t => by
    obtain ⟨psv, prs, r, hl, hl2, hp⟩ := pairs_psv I t
    obtain ⟨its, rv, ht, _⟩ := I.tuple h
    obtain ⟨u, y, ei, ru, ry⟩ := vals2 rv
    subst ei
    refine ⟨(u, y) :: psv, (kv.1, y) :: prs, .cons ⟨rfl, ry⟩ r, by rw [List.length_cons, List.length_cons, hl], by rw [List.length_cons, List.length_cons, hl2], fun j k v e => ?_⟩
    cases j with
    | zero =>
      have e' : (u, y) = (k, v) := Option.some.inj e
      cases e'
      exact ⟨p, kv.1, rfl, .inl (show s.heap.IsTuple p #[u, y] from ht), rfl, kV_is (P := X.prog) (w := X.w) ru⟩
    | succ j =>
      obtain ⟨b, q, e1, e2, e3, e4⟩ := hp j k v (by simpa using e)
      exact ⟨b, q, by simpa using e1, e2, by simpa using e3, e4⟩
theorem call_dictTZ (hcalm : X.calm = true) : CallR X (.type "dict") (fun xs H Q => ∃ (a : Addr) (ps : List Addr) (kvs : List (Key × V)), xs = [.ref a] ∧ PlainT X.K H a (ps.map V.ref) ∧ Paired (fun p kv => SqT X.K H p [kV kv.1, kv.2]) ps kvs ∧
    ∀ p, H p = none → Q (.ref p) (upd H p (.dK (mergeK [] kvs)))) := by
  intro pins s σ H xs us Q I r q
  obtain ⟨a, ps, kvs, ex, hq, hp, q⟩ := q
  subst ex
  obtain ⟨u, eu, rx⟩ := vals1 r
  subst eu
  cases rx
  obtain ⟨o, n, its, ho, hc, hd, hdt, rv, hz⟩ := plainT_at I hq
  have ei := refs_at rv
  subst ei
  rw [List.length_map] at hz
  obtain ⟨psv, prs, rel, hl, hl2, hpr⟩ := pairs_psv I hp
  have P := PairArg.tuple (prog := X.prog) (w := X.w) a (ps.map Value.ref).toArray (fun j => (ps[j]?).getD 0) psv
  refine PySem.call_dict_pairs (knd := mixKind X.prog X.w) (kvs := prs) P (I.ok.hd hcalm) ⟨⟨o, n, ho, hc, hd, hdt⟩, by simp [hl], fun j k v e => ?_⟩ ⟨by rw [hl2, hl], fun i k v e => ?_⟩ (by rw [hl]; exact hz) fun h' tk hd' k => ?_
  · obtain ⟨b, q, e1, e2, _, _⟩ := hpr j k v e
    refine ⟨by simp [e1], ?_⟩
    show PairAt _ ((ps[j]?).getD 0) k v
    rw [e1]
    exact e2
  · obtain ⟨b, q, e1, e2, e3, e4⟩ := hpr i k v e
    exact ⟨q, e3, e4⟩
  · have hm : (s.heap.objs.size == sysModules) = false := beq_eq_false_iff_ne.mpr (Nat.ne_of_gt I.big)
    have hlen : (mergeK [] kvs).length ≤ sizeLine := by
      refine Nat.le_trans (length_mergeK kvs []) ?_
      rw [List.length_nil, Nat.zero_add, rel.length, hl2]
      exact hz
    exact ⟨.ref s.heap.objs.size, upd H s.heap.objs.size (.dK (mergeK [] kvs)), I.laid (t' := tk) (fun b o e => k b o (List.not_mem_nil) e) (Nat.le_refl _) (show ObjOk X.prog X.w _ _ _ (.dK (mergeK [] kvs)) from ⟨hlen, hm, merged [] prs, L2.KV.merge rel .nil, hd'⟩), rfl, q _ (I.hok.fresh (Nat.le_refl _))⟩
end
/-! ### pairs as data -/
def pairsL : List D → Option (List (Key × D))
  | [] => some []
  | x :: r => match x with
    | .tup [k, v] => match keyD k, pairsL r with
      | some kk, some l => some ((kk, v) :: l)
      | _, _ => none
    | _ => none
def mergeD (kvs more : List (Key × D)) : List (Key × D) := more.foldl (fun acc kv => putD acc kv.1 kv.2) kvs
def dictW : D → W (List (Key × D))
  | .lst xs => bnd (optW (pairsL xs)) fun l => ret (mergeD [] l)
  | .tup xs => bnd (optW (pairsL xs)) fun l => ret (mergeD [] l)
  | .dic kvs => ret kvs
  | _ => stuck
section
variable {K : PySem.W.Frag} {S : Addr → Prop} {H : Hp}
theorem RepK.merge : ∀ {more : List (Key × D)} {mws : List (Key × V)} {kvs : List (Key × D)} {kws : List (Key × V)}, RepK K S H kvs kws → RepK K S H more mws → RepK K S H (mergeD kvs more) (mergeK kws mws)
  | [], _, kvs, kws, h, q => by
    have e : _ = [] := q
    rw [e]
    exact h
  | (k, x) :: more, _, kvs, kws, h, q => by
    obtain ⟨v, ws, rfl, r, q⟩ := q
    show RepK K S H (mergeD (putD kvs k x) more) (mergeK (putK kws k v) ws)
    exact RepK.merge (RepK.put k h r) q
theorem reps_pairs : ∀ {xs : List D} {vs : List V} {kvs : List (Key × D)}, Reps K S H xs vs → pairsL xs = some kvs →
    ∃ (ps : List Addr) (kws : List (Key × V)), vs = ps.map V.ref ∧ Paired (fun p kv => SqT K H p [kV kv.1, kv.2]) ps kws ∧ RepK K S H kvs kws
  | [], _, kvs, h, e => by
    have e0 : _ = [] := h
    rw [e0]
    cases e
    exact ⟨[], [], rfl, .nil, rfl⟩
  | x :: xs, _, kvs, h, e => by
    obtain ⟨v, ws, rfl, r, q⟩ := h
    match x, e, r with
    | .tup [k, y], e, r =>
      unfold pairsL at e
      simp only at e
      cases ek : keyD k with
      | none => rw [ek] at e; cases e
      | some kk =>
        cases ep : pairsL xs with
        | none => rw [ek, ep] at e; cases e
        | some l =>
          rw [ek, ep] at e
          cases e
          obtain ⟨ps, kws, e1, e2, e3⟩ := reps_pairs q ep
          obtain ⟨p, vs2, rfl, r1, _, q1⟩ := r
          obtain ⟨v1, w1, rfl, rk, q2⟩ := q1
          obtain ⟨v2, w2, rfl, ry, q3⟩ := q2
          have q3 : w2 = [] := q3
          subst q3
          obtain rfl := keyD_rep ek rk
          exact ⟨p :: ps, (kk, v2) :: kws, by rw [e1]; rfl, .cons r1.sq e2, v2, kws, rfl, ry, e3⟩
end
section
variable {G : PenK} {X : Cx} {Wx : WX} {c : C} {σ : L2.St} {ρ : Env} {H : Hp} {n : Nt}
theorem GlK.new {P : List (Key × D) → Nt → Prop} {Q : VK} (h : GlK G X c σ ρ H P Q) {xs : List (Key × D)} {a : Addr} {vs : List (Key × V)} (p : P xs n) (I : SI G X.K c σ H ρ n) (hp : H a = none) (r : RepK X.K c.S H xs vs) : Q (.ref a) (upd H a (.dK vs)) := by
  obtain ⟨I2, g2, f⟩ := SI.bare (o := .dK vs) I hp
  exact h xs n a vs c.S _ p g2 I2 upd_same (RepK.grow g2 _ _ r) f
/-- dict(e) -/
theorem k_dict {p pos : Pos} {e : Expr} {g : Env → W D} (hc : X.calm = true) (hm : X.mg "dict" = none) (h : E G X Wx e g) (hg : Gl X "dict" := by rfl) (he : starEach [e] X.env = (false, eval e X.env) :: starEach [] X.env := by rfl) (hv : bootBuiltins "dict" = some (.type "dict") := by first | exact PyProof.Rows.boot_dict | rfl) (hpl : (backTo pos (starEach [] X.env)).any (·.1) = false := by rfl) (hdb : (("dict" : Str) == ("__debug__" : Str)) = false := by decide) :
    EK G X Wx (.Call (.Name "dict" p) [e] [] pos) (fun ρ => bnd (g ρ) dictW) :=
  weakE (pe_callTy ((call_dictP hc).or ((call_dictTZ hc).or call_dictD)) hg hm hv (a_cons h a_nil he) (by decide) hdb he hpl) fun σ H Q ⟨c, ρ, n, P, PX, I, q, hg, hx⟩ => tAr.bnd (f := fun ds => match ds with | [d] => dictW d | _ => stuck) I q hx fun ds k vs S' H' p g I' hx' rs => by
    have hg : GlK G X (c.to S') σ ρ H' P Q := fun xs k a vs S2 H2 p2 g2 I2 e r f => hg xs k a vs S2 H2 p2 (g.trans g2) I2 e r f
    cases ds with
    | nil => exact p.elim
    | cons d ds =>
      cases ds with
      | cons _ _ => exact p.elim
      | nil =>
        obtain ⟨u, rfl, r1⟩ := rs.one_inv
        cases d with
        | lst xs =>
          obtain ⟨a, us, rfl, r2, _, q1⟩ := r1
          obtain ⟨l, el, p⟩ := optW_inv (show optW (pairsL xs) k (fun l k => P (mergeD [] l) k) PX from p)
          obtain ⟨ps, kws, rfl, pr, rk⟩ := reps_pairs q1 el
          exact .inl ⟨a, ps, kws, rfl, r2.sq, pr, fun b hb => hg.new p I' hb (RepK.merge (kvs := []) (kws := []) rfl rk)⟩
        | tup xs =>
          obtain ⟨a, us, rfl, r2, _, q1⟩ := r1
          obtain ⟨l, el, p⟩ := optW_inv (show optW (pairsL xs) k (fun l k => P (mergeD [] l) k) PX from p)
          obtain ⟨ps, kws, rfl, pr, rk⟩ := reps_pairs q1 el
          exact .inr (.inl ⟨a, ps, kws, rfl, r2.elim (fun z => .inl z.2) .inr, pr, fun b hb => hg.new p I' hb (RepK.merge (kvs := []) (kws := []) rfl rk)⟩)
        | dic kvs =>
          obtain ⟨a, kws, rfl, ⟨_, rd⟩, rk⟩ := r1
          exact .inr (.inr ⟨a, kws, rfl, rd, fun b hb => hg.new p I' hb rk⟩)
        | _ => exact False.elim p
end
end PL

/-! d.get(k), {**a, **b}, [.. for key in d ..]. -/
namespace PL
open PySem PySem.Spec L2
section
variable {G : PenK} {X : Cx} {Wx : WX}
/-! ### d.get(k) -/
def dicW : D → W (List (Key × D))
  | .dic kvs => ret kvs
  | _ => stuck
/-! ### dicts that are only read or made anew: nothing else is laid or changed -/
def tFd (G : PenK) (X : Cx) (Wx : WX) (g : Env → W (List (Key × D))) : TE := fun σ H Q => ∃ c ρ n P PX, SI G X.K c σ H ρ n ∧ g ρ n P PX ∧
  (∀ xs (k : Nt) a vs H', P xs k → k.μ = n.μ → (∀ b o, H b = some o → H' b = some o) → SI G X.K c σ H' ρ k → Rd H' a (.dK vs) → RepK X.K c.S H' xs vs → (c.S a ∨ H a = none) → Q (.ref a) H') ∧ OKx G X Wx c σ ρ H PX
def EF (G : PenK) (X : Cx) (Wx : WX) (e : Expr) (g : Env → W (List (Key × D))) : Prop := PE X e (tFd G X Wx g)
theorem nm_inv {ρ : Env} {i : Nat} {n : Nt} {α : Type} {f : D → W α} {P : α → Nt → Prop} {PX : Exc → Nt → Prop} (h : bnd (nm ρ i) f n P PX) : ∃ d, ρ[i]? = some (.d d) ∧ f d n P PX := by
  unfold nm at h
  cases e : ρ[i]? with
  | none => rw [e] at h; exact False.elim h
  | some sv =>
    rw [e] at h
    cases sv with
    | d x => exact ⟨x, rfl, h⟩
    | _ => exact False.elim h
theorem f_dict {x : Str} {px p pos : Pos} (i : Nat) (hc : X.calm = true) (hm : X.mg "dict" = none) (hN : X.N[i]? = some x := by rfl) (hv : Vis X.env.scope x := by first | exact Or.inl rfl | exact Or.inr (Or.inl rfl) | exact Or.inr (Or.inr rfl)) (hd : (x == ("__debug__" : Str)) = false := by decide)
    (hcd : (x == ("__classdict__" : Str)) = false := by decide) (hg : Gl X "dict" := by rfl) (he : starEach [.Name x px] X.env = (false, eval (.Name x px) X.env) :: starEach [] X.env := by rfl) (hbv : bootBuiltins "dict" = some (.type "dict") := by first | exact PyProof.Rows.boot_dict | rfl) (hpl : (backTo pos (starEach [] X.env)).any (·.1) = false := by rfl) (hdb : (("dict" : Str) == ("__debug__" : Str)) = false := by decide) :
    EF G X Wx (.Call (.Name "dict" p) [.Name x px] [] pos) (fun ρ => bnd (nm ρ i) dictW) :=
  weakE (pe_callTy ((call_dictP hc).or ((call_dictTZ hc).or call_dictD)) hg hm hbv (pa_cons (pe_var hN hv hd hcd) pa_nil he) (by decide) hdb he hpl) fun σ H Q ⟨c, ρ, n, P, PX, I, q, hg, hx⟩ => by
    obtain ⟨d, e, q⟩ := nm_inv (show bnd (nm ρ i) dictW n P PX from q)
    obtain ⟨v, e1, r⟩ := I.slots i _ e
    have fin : ∀ (xs : List (Key × D)) (vs : List (Key × V)) (b : Addr), P xs n → RepK X.K c.S H xs vs → H b = none → Q (.ref b) (upd H b (.dK vs)) := fun xs vs b p rk hb => by
      obtain ⟨I2, g2, f⟩ := SI.bare (o := .dK vs) I hb
      exact hg xs n b vs _ p rfl (fun b2 o e => by rw [upd_ne (ne_of_none e hb)]; exact e) I2 (.inl upd_same) (RepK.grow g2 _ _ rk) (.inr hb)
    refine ⟨v, slot_some e1, ?_⟩
    cases d with
    | lst xs =>
      obtain ⟨a, us, rfl, r2, _, q1⟩ := r
      obtain ⟨l, el, p⟩ := optW_inv (show optW (pairsL xs) n (fun l k => P (mergeD [] l) k) PX from q)
      obtain ⟨ps, kws, rfl, pr, rk⟩ := reps_pairs q1 el
      exact .inl ⟨a, ps, kws, rfl, r2.sq, pr, fun b hb => fin _ _ b p (RepK.merge (kvs := []) (kws := []) rfl rk) hb⟩
    | tup xs =>
      obtain ⟨a, us, rfl, r2, _, q1⟩ := r
      obtain ⟨l, el, p⟩ := optW_inv (show optW (pairsL xs) n (fun l k => P (mergeD [] l) k) PX from q)
      obtain ⟨ps, kws, rfl, pr, rk⟩ := reps_pairs q1 el
      exact .inr (.inl ⟨a, ps, kws, rfl, r2.elim (fun z => .inl z.2) .inr, pr, fun b hb => fin _ _ b p (RepK.merge (kvs := []) (kws := []) rfl rk) hb⟩)
    | dic kvs =>
      obtain ⟨a, kws, rfl, ⟨_, rd⟩, rk⟩ := r
      exact .inr (.inr ⟨a, kws, rfl, rd, fun b hb => fin _ _ b q rk hb⟩)
    | _ => exact False.elim q
/-- {**a, **b} -/
def overW (a b : List (Key × D)) : W (List (Key × D)) := grd (a.length + b.length ≤ sizeLine) (ret (mergeD (mergeD [] a) b))
theorem k_over {e1 e2 : Expr} {pos : Pos} {g1 g2 : Env → W (List (Key × D))} (h1 : EF G X Wx e1 g1) (h2 : EF G X Wx e2 g2) :
    EK G X Wx (.Dict [none, none] [e1, e2] pos) (fun ρ => bnd (g1 ρ) fun a => bnd (g2 ρ) fun b => overW a b) :=
  weakE (pe_over h1 h2) fun σ H Q ⟨c, ρ, n, P, PX, I, q, hg, hx⟩ => fun p hp => by
    obtain ⟨I0, g0, f0⟩ := SI.bare (o := .dK []) I hp
    have h0 : c.H0 p = none := I.freeOld hp
    have hS : ¬ c.S p := I.freeS hp
    have hO : ¬ ownS ρ σ p := fun z => I.own_there z hp
    refine ⟨c, ρ, n, fun a k => bnd (g2 ρ) (fun b => grd (a.length + b.length ≤ sizeLine) (ret (mergeD (mergeD [] a) b))) k P PX, PX, I0, q, fun xs k a vs H1 p1 em1 fr1 I1 rd1 rk1 ha => ?_, hx.grow g0⟩
    have e1 : H1 p = some (.dK []) := fr1 p _ upd_same
    have ne1 : a ≠ p := fun z => ha.elim (fun w => hS (z ▸ w)) fun w => by rw [z, upd_same] at w; cases w
    have gr1 : Grow c.S c.S (upd H p (.dK [])) H1 := ⟨fun _ w => w, fun b w => by
      cases eb : upd H p (.dK []) b with
      | none => exact absurd eb (I0.dom b w)
      | some o => exact fr1 b o eb⟩
    obtain ⟨I2, gr2⟩ := SI.put (o := .dK (mergeK [] vs)) I1 h0 hS (by rw [em1]; exact I.freeM hp) hO
    refine ⟨a, vs, rfl, rd1, ne1, e1, c, ρ, k, fun b k => (grd (xs.length + b.length ≤ sizeLine) (ret (mergeD (mergeD [] xs) b))) k P PX, PX, I2, p1, fun ys k2 a2 ws H2 p2 em2 fr2 I3 rd2 rk2 ha2 => ?_, hx.grow ((g0.trans gr1).trans gr2)⟩
    obtain ⟨z, p2⟩ := p2
    have e2 : H2 p = some (.dK (mergeK [] vs)) := fr2 p _ upd_same
    have ne2 : a2 ≠ p := fun z => ha2.elim (fun w => hS (z ▸ w)) fun w => by rw [z, upd_same] at w; cases w
    have gr3 : Grow c.S c.S (upd H1 p (.dK (mergeK [] vs))) H2 := ⟨fun _ w => w, fun b w => by
      cases eb : upd H1 p (.dK (mergeK [] vs)) b with
      | none => exact absurd eb (I2.dom b w)
      | some o => exact fr2 b o eb⟩
    have l1 := rk1.len
    have l2 := rk2.len
    have l3 := length_mergeK vs []
    rw [List.length_nil] at l3
    obtain ⟨I4, gr4⟩ := SI.put (o := .dK (mergeK (mergeK [] vs) ws)) I3 h0 hS (by rw [em2, em1]; exact I.freeM hp) hO
    refine ⟨a2, ws, rfl, rd2, ne2, e2, by omega, ?_⟩
    have rk1' := RepK.grow ((gr2.trans gr3).trans gr4) _ _ rk1
    exact hg _ k2 p _ c.S _ p2 ((((g0.trans gr1).trans gr2).trans gr3).trans gr4) I4 upd_same (RepK.merge (RepK.merge (kvs := []) (kws := []) rfl rk1') (RepK.grow gr4 _ _ rk2)) ⟨⟨hS, h0, by rw [em2, em1]; exact I.freeM hp⟩, fun i sv e ho es => hO ⟨i, sv, e, ho, es⟩⟩
end
/-! ### [.. for key in d ..]: the dict is locked meanwhile -/
def C.free (c : C) (d : Addr) : C := { c with H0 := fun a => if a = d then none else c.H0 a }
mutual
theorem Rep.rd {K : PySem.W.Frag} {S : Addr → Prop} {H H' : Hp} (hl : ∀ a xs, S a → H a = some (.lst xs) → H' a = some (.lst xs)) (ht : ∀ a xs, S a → PlT H a xs → PlT H' a xs) (hd : (∀ a kws, S a → Rd H a (.dK kws) → Rd H' a (.dK kws)) ∧ ∀ a C dx fs, S a → H a = some (.ins C dx fs) → H' a = some (.ins C dx fs)) : ∀ (x : D) (v : V), Rep K S H x v → Rep K S H' x v
  | .non, _, h => h
  | .bl _, _, h => h
  | .int _, _, h => h
  | .str _, _, h => h
  | .lst xs, _, h => by
    obtain ⟨a, vs, e, ⟨r1, r2⟩, z, q⟩ := h
    exact ⟨a, vs, e, ⟨r1, hl a _ r1 r2⟩, z, Reps.rd hl ht hd xs vs q⟩
  | .tup xs, _, h => by
    obtain ⟨a, vs, e, r, z, q⟩ := h
    exact ⟨a, vs, e, r.elim (fun ⟨r1, r2⟩ => .inl ⟨r1, ht a _ r1 r2⟩) .inr, z, Reps.rd hl ht hd xs vs q⟩
  | .dic kvs, _, h => by
    obtain ⟨a, kws, e, ⟨r1, r2⟩, q⟩ := h
    exact ⟨a, kws, e, ⟨r1, hd.1 a _ r1 r2⟩, RepK.rd hl ht hd kvs kws q⟩
  | .ins _ _ x, _, h => by
    obtain ⟨a, C, dx, w, e, i, ⟨r1, r2⟩, q⟩ := h
    exact ⟨a, C, dx, w, e, i, ⟨r1, hd.2 a _ _ _ r1 r2⟩, Rep.rd hl ht hd x w q⟩
theorem Reps.rd {K : PySem.W.Frag} {S : Addr → Prop} {H H' : Hp} (hl : ∀ a xs, S a → H a = some (.lst xs) → H' a = some (.lst xs)) (ht : ∀ a xs, S a → PlT H a xs → PlT H' a xs) (hd : (∀ a kws, S a → Rd H a (.dK kws) → Rd H' a (.dK kws)) ∧ ∀ a C dx fs, S a → H a = some (.ins C dx fs) → H' a = some (.ins C dx fs)) : ∀ (xs : List D) (vs : List V), Reps K S H xs vs → Reps K S H' xs vs
  | [], _, h => h
  | x :: xs, _, h => by
    obtain ⟨v, ws, e, r, q⟩ := h
    exact ⟨v, ws, e, Rep.rd hl ht hd x v r, Reps.rd hl ht hd xs ws q⟩
theorem RepK.rd {K : PySem.W.Frag} {S : Addr → Prop} {H H' : Hp} (hl : ∀ a xs, S a → H a = some (.lst xs) → H' a = some (.lst xs)) (ht : ∀ a xs, S a → PlT H a xs → PlT H' a xs) (hd : (∀ a kws, S a → Rd H a (.dK kws) → Rd H' a (.dK kws)) ∧ ∀ a C dx fs, S a → H a = some (.ins C dx fs) → H' a = some (.ins C dx fs)) : ∀ (xs : List (Key × D)) (vs : List (Key × V)), RepK K S H xs vs → RepK K S H' xs vs
  | [], _, h => h
  | (k, x) :: xs, _, h => by
    obtain ⟨v, ws, e, r, q⟩ := h
    exact ⟨v, ws, e, Rep.rd hl ht hd x v r, RepK.rd hl ht hd xs ws q⟩
end
section
variable {G : PenK} {K : PySem.W.Frag} {c : C} {σ : L2.St} {ρ : Env} {H H' : Hp} {n k : Nt} {d : Addr} {o : Obj} {kws : List (Key × V)}
theorem RepX.rd {S : Addr → Prop} {mg : Str → Option Value} {x : Exc} {cls : Value} {dd : Option Addr} (f : ∀ x v, Rep K S H x v → Rep K S H' x v) (hx : ∀ a fv, H a = some (.xd fv) → H' a = some (.xd fv)) (h : RepX K mg S H x cls dd) : RepX K mg S H' x cls dd := by
  obtain ⟨A, h1, h2, h3⟩ := h
  exact ⟨A, h1, h2, h3.imp id fun ⟨d, fv, e, hs, hd, p⟩ => ⟨d, fv, e, hs, hx d fv hd, repX_pair f p⟩⟩
theorem LamOk.rd {S : Addr → Prop} {b : Addr} {q : Str} {τ : L2.St} {ds : List (Option D)} (f : ∀ x v, Rep K S H x v → Rep K S H' x v) (he : ∀ a φ, H a = some (.ext φ) → H' a = some (.ext φ)) (h : LamOk K S H b q τ ds) : LamOk K S H' b q τ ds := by
  obtain ⟨h1, h2, h3, h4⟩ := h
  refine ⟨h1, he b _ h2, h3, fun i x e => ?_⟩
  obtain ⟨v, e1, r⟩ := h4 i x e
  exact ⟨v, e1, f x v r⟩
theorem TabI.rd {S : Addr → Prop} {P : Addr} {q : Str} (he : ∀ a φ, H a = some (.ext φ) → H' a = some (.ext φ)) (e : H' P = H P) (h : TabI S H P q) : TabI S H' P q := by
  obtain ⟨ps, h1, h2, h3⟩ := h
  refine ⟨ps, e.trans h1, h2, fun pos cv z => ?_⟩
  obtain ⟨c, e1, e2, e3⟩ := h3 pos cv z
  exact ⟨c, e1, e2, he c _ e3⟩
theorem TabI.ne {S : Addr → Prop} {P b : Addr} {q : Str} {o : HO} (h : TabI S H P q) (e : H b = some o) (n : ∀ ps, o ≠ .tbl ps) : P ≠ b := by
  obtain ⟨ps, h1, _⟩ := h
  intro z
  rw [z, e] at h1
  exact n ps (Option.some.inj h1)
theorem NdOk.rd {K : PySem.W.Frag} {S : Addr → Prop} {H H' : Hp} {a : Addr} {nd : Nd} (f : ∀ d v, Rep K S H d v → Rep K S H' d v) (e : H' a = H a) (h : NdOk K S H a nd) : NdOk K S H' a nd := h.move e
end
end PL

/-! [.. for key in d ..] -/
namespace PL
open PySem PySem.Spec L2
section
variable {G : PenK} {X : Cx} {Wx : WX}
end
end PL

/-! sorted of pairs (text, int). -/
namespace PL
open PySem PySem.Spec PyProof.Rows L2
open SrtO hiding Str
def IsSI (h : Heap) (v : Value) (x : Str) (y : Int) : Prop := ∃ a o t u n, v = .ref a ∧ h.get? a = some o ∧ o.cls = .type "tuple" ∧ o.data = .seq #[.str x t, .int y u] n
theorem IsSI.keeps {h h' : Heap} {v : Value} {x : Str} {y : Int} (p : IsSI h v x y) (k : ∀ b o, h.get? b = some o → o.cls = .type "tuple" → h'.get? b = some o) : IsSI h' v x y := by
  obtain ⟨a, o, t, u, n, e, ho, hc, hd⟩ := p
  exact ⟨a, o, t, u, n, e, k _ _ ho hc, hc, hd⟩
section
variable {prog : Program} {w : World} {A : Around} {E : Value → Shared → Prop} {s : Shared}
end
section
variable {X : Cx} {pins : List (Addr × Obj)} {σ : L2.St} {H : Hp} {s : Shared}
end
section
variable {G : PenK} {X : Cx} {Wx : WX}
end
end PL

/-! a, b = x, y with local names: no pair is made. -/
namespace PL
open PySem PySem.Spec L2
def unpL2 : List D → W (D × D)
  | [a, b] => ret (a, b)
  | _ => stuck
section
variable {G : PenK} {X : Cx} {Wx : WX} {γ : Type} {En : Enz γ} {ρ : Env} {rest : List Stmt} {m : W γ}
theorem s_par {x y : Str} {a b : Expr} {px py pt pos : Pos} {kt : Nat} {k2 : Nat} {pt2 : Pos} {gs : Env → W (List D)} (i j : Nat) (hc : X.calm = true) (hN : X.N.Nodup) (h : A G X Wx [a, b] gs) (hi : X.N[i]? = some x) (hj : X.N[j]? = some y) (hij : i ≠ j)
    (hx : X.env.scope.names.lookup x = some .local) (hy : X.env.scope.names.lookup y = some .local)
    (hw : swappedStores [.Tuple [.Name x px, .Name y py] kt pt] (.Tuple [a, b] k2 pt2) X.env = pure (some [x, y])) (hs : swapsWithSole [.Tuple [.Name x px, .Name y py] kt pt] (.Tuple [a, b] k2 pt2) pos.line X.env = pure false) :
    St1 G X Wx (.Assign [.Tuple [.Name x px, .Name y py] kt pt] (.Tuple [a, b] k2 pt2) pos) (fun ρ => bnd (bnd (gs ρ) unpL2) fun p => ret (.nx ((ρ.set i (.d p.1)).set j (.d p.2)))) :=
  weakS (ps_par hc hN hi hj hij hx hy h hw hs) fun Dn σ H ⟨c, ρ, n, P, PX, I, q, hg, hx⟩ => tAr.bnd (α := Out) (P := P) (f := fun ds => bnd (unpL2 ds) fun p => ret (Out.nx ((ρ.set i (.d p.1)).set j (.d p.2)))) I q hx.x fun ds k vs S' H' p g I' hx' r => by
    match ds, r, p with
    | [d1, d2], r, p =>
      obtain ⟨v, w, rfl, r1, r2⟩ := r.two_inv
      exact ⟨v, w, rfl, hg.1 _ k _ S' H' p g ((I'.set (i := i) r1).set (i := j) r2)⟩
    | [], _, p => exact False.elim p
    | [_], _, p => exact False.elim p
    | _ :: _ :: _ :: _, _, p => exact False.elim p
theorem sg_par2 {x y : Str} {a b : Expr} {px py pt pos : Pos} {kt : Nat} {k2 : Nat} {pt2 : Pos} {gs : Env → W (List D)} {α : Type} {m0 : W α} {f1 f2 : α → D} {k : α → W γ} {ρ' : α → Env} (i j L : Nat) (h : A G X Wx [a, b] gs) (hc : X.calm = true) (hN : X.N.Nodup) (hg : bnd (gs ρ) unpL2 = bnd m0 fun a => ret (f1 a, f2 a)) (inj : ∀ a b, f1 a = f1 b → f2 a = f2 b → a = b) (hL : ρ.length = L) (hi : i < L) (hj : j < L) (hij : j ≠ i) (hρ : ∀ a, (ρ.set i (.d (f1 a))).set j (.d (f2 a)) = ρ' a) (hr : ∀ a, SG G X Wx rest (ρ' a) En (k a))
    (hi2 : X.N[i]? = some x := by rfl) (hj2 : X.N[j]? = some y := by rfl) (hx : X.env.scope.names.lookup x = some .local := by rfl) (hy : X.env.scope.names.lookup y = some .local := by rfl)
    (hw : swappedStores [.Tuple [.Name x px, .Name y py] kt pt] (.Tuple [a, b] k2 pt2) X.env = pure (some [x, y]) := by rfl) (hs : swapsWithSole [.Tuple [.Name x px, .Name y py] kt pt] (.Tuple [a, b] k2 pt2) pos.line X.env = pure false := by rfl) :
    SG G X Wx (.Assign [.Tuple [.Name x px, .Name y py] kt pt] (.Tuple [a, b] k2 pt2) pos :: rest) ρ En (bnd m0 k) :=
  sg_stmt (e := fun a => (ρ.set i (.d (f1 a))).set j (.d (f2 a))) (s_par i j hc hN h hi2 hj2 (Ne.symm hij) hx hy hw hs) (by
    rw [hg, bnd_bnd]
    rfl) (fun a b hab => by
    have q := congrArg (·[j]?) hab
    simp only [List.getElem?_set_self (show j < (ρ.set i (SV.d (f1 a))).length by simp [hL, hj]), List.getElem?_set_self (show j < (ρ.set i (SV.d (f1 b))).length by simp [hL, hj])] at q
    have q2 := congrArg (·[i]?) hab
    simp only [List.getElem?_set_ne hij, List.getElem?_set_self (show i < ρ.length by rw [hL]; exact hi)] at q2
    exact inj a b (SV.d.inj (Option.some.inj q2)) (SV.d.inj (Option.some.inj q))) fun a => by rw [hρ]; exact hr a
end
end PL

/-! range(a, b, -1); a, b, c, d = e. -/
namespace PL
open PySem PySem.Spec L2
def rngDn (lo : Int) (n : Nat) : List Int := (List.range n).map fun i => lo + (i : Nat) * (-1)
def rngM (i j : Int) : W (List Int) := grd (inR i ∧ inR j) (ret (rngDn i (i - j).toNat))
def rngDM : D → D → W (List Int)
  | .int i, .int j => rngM i j
  | _, _ => stuck
theorem rngDn_len (lo : Int) (n : Nat) : (rngDn lo n).length = n := by unfold rngDn; rw [List.length_map, List.length_range]
theorem walks_rngDn {G : PenK} {K : PySem.W.Frag} {S : Addr → Prop} {H : Hp} {lo : Int} {n : Nat} : Walks G K (Itc lo (-1) n) S H ((rngDn lo n).map .int) := fun c ρ σ H2 k i g I => by
  rw [List.length_map, rngDn_len]
  refine ⟨fun hi => ⟨hi, fun v H' ⟨e1, e2⟩ => ⟨c.S, .int (lo + (i : Nat) * (-1)), e1 ▸ .refl, e1 ▸ I, ?_, e2⟩⟩, fun hi => hi⟩
  unfold rngDn
  rw [List.getElem?_map, List.getElem?_map, List.getElem?_range hi]
  rfl
theorem Reps.three_inv {K : PySem.W.Frag} {S : Addr → Prop} {H : Hp} {a b c : D} {vs : List V} (h : Reps K S H [a, b, c] vs) : ∃ u v w, vs = [u, v, w] ∧ Rep K S H a u ∧ Rep K S H b v ∧ Rep K S H c w := by
  obtain ⟨u, r1, rfl, h1, v, r2, rfl, h2, w, r3, rfl, h3, h4⟩ := h
  have h4 : r3 = [] := h4
  subst h4
  exact ⟨u, v, w, rfl, h1, h2, h3⟩
section
variable {G : PenK} {X : Cx} {Wx : WX}
def rng3 (ds : List D) : W (List D) := match ds with
  | [x, y, .int z] => grd (z = -1) (bnd (rngDM x y) fun ys => ret (ys.map D.int))
  | _ => stuck
theorem rngDM_inv {x y : D} {n : Nt} {P : List Int → Nt → Prop} {PX : Exc → Nt → Prop} (h : rngDM x y n P PX) : ∃ i j, x = .int i ∧ y = .int j ∧ rngM i j n P PX := by
  unfold rngDM at h
  split at h
  · exact ⟨_, _, rfl, rfl, h⟩
  · exact h.elim
theorem rng3_inv {ds : List D} {n : Nt} {P : List D → Nt → Prop} {PX : Exc → Nt → Prop} (h : rng3 ds n P PX) : ∃ i j, ds = [.int i, .int j, .int (-1)] ∧ (inR i ∧ inR j) ∧ P ((rngDn i (i - j).toNat).map D.int) n := by
  unfold rng3 at h
  split at h
  · obtain ⟨rfl, h⟩ := h
    obtain ⟨i, j, rfl, rfl, z, p⟩ := rngDM_inv h
    exact ⟨i, j, rfl, z, p⟩
  · exact h.elim
theorem w_rngMZ {tg a b c : Expr} {p pos : Pos} {ga gb gc : Env → W D} (hm : X.mg "range" = none) (ha : E G X Wx a ga) (hb : E G X Wx b gb) (hc : E G X Wx c gc) (h1 : ∀ ρ, gc ρ = ret (.int (-1))) (hg : Gl X "range" := by rfl)
    (hs : starEach [a, b, c] X.env = (false, eval a X.env) :: starEach [b, c] X.env := by rfl) (hs2 : starEach [b, c] X.env = (false, eval b X.env) :: starEach [c] X.env := by rfl) (hs3 : starEach [c] X.env = (false, eval c X.env) :: starEach [] X.env := by rfl) (hpl : (backTo pos (starEach [b, c] X.env)).any (·.1) = false := by rfl) :
    Wk G X Wx tg (.Call (.Name "range" p) [a, b, c] [] pos) (fun ρ => bnd (bnd (ga ρ) fun x => bnd (gb ρ) fun y => rngDM x y) fun ys => ret (ys.map .int)) :=
  weakI (pi_range3 hg hm (a_cons ha (a_cons hb (a_cons hc a_nil hs3) hs2) hs) hs hpl) fun σ H R ⟨cc, ρ, n, P, PX, I, q, hgo, hx⟩ => by
    have e : (bnd (bnd (ga ρ) fun x => bnd (gb ρ) fun y => rngDM x y) fun ys => ret (ys.map D.int) : W (List D)) = bnd (bnd (ga ρ) fun x => bnd (bnd (gb ρ) fun x => bnd (bnd (gc ρ) fun x => bnd (ret []) fun xs => ret (x :: xs)) fun xs => ret (x :: xs)) fun xs => ret (x :: xs)) rng3 := by
      rw [h1]
      simp only [bnd_bnd, bnd_ret]
      congr 1
      funext x
      congr 1
      funext y
      exact (grd_pos rfl _).symm
    have q : bnd (bnd (ga ρ) fun x => bnd (gb ρ) fun y => rngDM x y) (fun ys => ret (ys.map D.int)) n P PX := q
    rw [e] at q
    refine tAr.bnd (g := fun ρ => bnd (ga ρ) fun x => bnd (bnd (gb ρ) fun x => bnd (bnd (gc ρ) fun x => bnd (ret []) fun xs => ret (x :: xs)) fun xs => ret (x :: xs)) fun xs => ret (x :: xs)) (f := rng3) I q hx fun ds k vs S' H' p g I' hx' r => ?_
    obtain ⟨i, j, rfl, ⟨z1, z2⟩, p⟩ := rng3_inv p
    obtain ⟨u, v, w, rfl, rfl, rfl, rfl⟩ := r.three_inv
    exact ⟨i, j, -1, _, rfl, RgC.neg z1.1 z1.2 z2.1 z2.2, hgo _ k S' H' _ p g I' walks_rngDn⟩
end
end PL

/-! zip of two lists or two tuples: each pair told by its object. -/
namespace PL
open PySem PySem.Spec PyProof.Rows L2 RZ
def Izl (K : PySem.W.Frag) (a b : Addr) : It :=
  ⟨fun i H => ∃ (xs ys : List V) (x y : V), SqL K H a xs ∧ SqL K H b ys ∧ xs[i]? = some x ∧ ys[i]? = some y,
    fun i H v H' => ∃ T x y o, v = .ref T ∧ H T = none ∧ o.dict = none ∧ H' = upd H T (.frz o (.tup [x, y])) ∧ (∀ xs, SqL K H a xs → xs[i]? = some x) ∧ ∀ ys, SqL K H b ys → ys[i]? = some y,
    fun i H => ∃ xs ys : List V, SqL K H a xs ∧ SqL K H b ys ∧ (xs.length ≤ i ∨ ys.length ≤ i)⟩
def Izt (K : PySem.W.Frag) (a b : Addr) : It :=
  ⟨fun i H => ∃ (xs ys : List V) (x y : V), SqT K H a xs ∧ SqT K H b ys ∧ xs[i]? = some x ∧ ys[i]? = some y,
    fun i H v H' => ∃ T x y o, v = .ref T ∧ H T = none ∧ o.dict = none ∧ H' = upd H T (.frz o (.tup [x, y])) ∧ (∀ xs, SqT K H a xs → xs[i]? = some x) ∧ ∀ ys, SqT K H b ys → ys[i]? = some y,
    fun i H => ∃ xs ys : List V, SqT K H a xs ∧ SqT K H b ys ∧ (xs.length ≤ i ∨ ys.length ≤ i)⟩
theorem turn_zl {P : Program} {w : World} {K : PySem.W.Frag} {elts : List Expr} {kk : Nat} {tpos : Pos} {a b z TI TO i1 i2 : Addr} (D : ZipApart z TI TO i1 i2 a b) :
    Turn P w K (.Tuple elts kk tpos) (Izl K a b) [z, TI, TO, i1, i2] z (fun i h => IsZip h z TI TO .none ∧ IsPair h TI (.ref i1) (.ref i2) ∧ (∃ x y, IsPair h TO x y) ∧ h.IsListIter i1 a i ∧ h.IsListIter i2 b i) where
  mem := by simp
  obj := fun i h st c hc => by
    obtain ⟨hz, hTI, ⟨x, y, hTO⟩, ⟨o1, e1, _, d1⟩, ⟨o2, e2, _, d2⟩⟩ := st
    have e' : c = z ∨ c = TI ∨ c = TO ∨ c = i1 ∨ c = i2 := by simpa using hc
    rcases e' with q | q | q | q | q
    · rw [q]; exact ⟨_, hz, fun v q => nomatch q⟩
    · rw [q]; exact ⟨_, hTI, fun v q => nomatch q⟩
    · rw [q]; exact ⟨_, hTO, fun v q => nomatch q⟩
    · rw [q]; exact ⟨o1, e1, fun v q => by rw [d1] at q; cases q⟩
    · rw [q]; exact ⟨o2, e2, fun v q => by rw [d2] at q; cases q⟩
  keep := fun i h h' st k => by
    obtain ⟨hz, hTI, ⟨x, y, hTO⟩, h1, h2⟩ := st
    exact ⟨k z (by simp) _ hz, k TI (by simp) _ hTI, ⟨x, y, k TO (by simp) _ hTO⟩, h1.at fun o q => k i1 (by simp) o q, h2.at fun o q => k i2 (by simp) o q⟩
  item := by
    intro X hP hw hK hc i pins s σ H E I hf st hg
    subst hP hw hK
    obtain ⟨hz, hTI, ⟨x0, y0, hTO⟩, h1, h2⟩ := st
    obtain ⟨xs, ys, x, y, hqx, hqy, hx, hy⟩ := hg
    obtain ⟨its, rv, p, _⟩ := I.list hqx
    obtain ⟨its2, rv2, p2, _⟩ := I.list hqy
    obtain ⟨u, hu, ru⟩ := rv.get hx
    obtain ⟨u2, hu2, ru2⟩ := rv2.get hy
    have hzl : z < s.heap.objs.size := Heap.lt_size hz
    refine wpAny_pyNext_zip_item D hz hTI hTO h1 h2 p.isList p2.isList (x := u) (y := u2) (by simpa using hu) (by simpa using hu2) fun h' z' TO' h1' h2' hT hsz hk => ?_
    refine ⟨_, rfl, wpAny_letOwnedTupleGo_zip (s := { s with heap := h' }) z' fun h'' z'' sb => ?_⟩
    have hT2 : h''.get? s.heap.objs.size = some { cls := .type "tuple", data := .seq #[u, u2] } := (sb.2 _ (Nat.ne_of_gt hzl)).trans hT
    have new : ObjOk X.prog X.w (upd H s.heap.objs.size (.frz { cls := .type "tuple", data := .seq #[u, u2] } (.tup [x, y]))) h'' s.heap.objs.size (.frz { cls := .type "tuple", data := .seq #[u, u2] } (.tup [x, y])) :=
      ⟨hT2, by show 2 ≤ sizeLine; decide, [u, u2], .cons ru (.cons ru2 .nil), ⟨_, hT2, rfl, _, rfl⟩⟩
    have I1 : Inv X pins σ (upd H s.heap.objs.size (.frz { cls := .type "tuple", data := .seq #[u, u2] } (.tup [x, y]))) { s with heap := h'' } :=
      I.turnedNew (t' := s.toks) (ch := [z, TI, TO, i1, i2]) (fun c o hb q => (sb.2 c (fun q' => hb (by simp [q']))).trans (hk c o (fun q' => hb (by simp [q'])) (fun q' => hb (by simp [q'])) (fun q' => hb (by simp [q'])) (fun q' => hb (by simp [q'])) q)) hf (Nat.le_refl _) new
    refine ⟨.ref s.heap.objs.size, _, I1, rfl, ⟨_, x, y, _, rfl, I.hok.fresh (Nat.le_refl _), rfl, rfl, fun l hl => by rw [I.list_inj hl hqx]; exact hx, fun l hl => by rw [I.list_inj hl hqy]; exact hy⟩, ⟨z'', ?_, ⟨u, u2, ?_⟩, ?_, ?_⟩, fun c hcm => ?_⟩
    · exact (sb.2 _ D.TIz).trans (hk _ _ D.TIz D.TITO D.TIi1 D.TIi2 hTI)
    · exact (sb.2 _ D.TOz).trans TO'
    · exact h1'.at fun o q => (sb.2 _ D.i1z).trans q
    · exact h2'.at fun o q => (sb.2 _ D.i2z).trans q
    · have hlt : c < s.heap.objs.size := by
        have e' : c = z ∨ c = TI ∨ c = TO ∨ c = i1 ∨ c = i2 := by simpa using hcm
        rcases e' with q | q | q | q | q
        · rw [q]; exact hzl
        · rw [q]; exact Heap.lt_size hTI
        · rw [q]; exact Heap.lt_size hTO
        · rw [q]; obtain ⟨_, e1, _⟩ := h1; exact Heap.lt_size e1
        · rw [q]; obtain ⟨_, e2, _⟩ := h2; exact Heap.lt_size e2
      rw [upd_ne (Nat.ne_of_lt hlt)]
      exact (hf c hcm).1
  done := by
    intro X hP hw hK hc i pins s σ H E I hf st hg
    subst hP hw hK
    obtain ⟨hz, hTI, ⟨x0, y0, hTO⟩, h1, h2⟩ := st
    obtain ⟨xs, ys, hqx, hqy, hend⟩ := hg
    obtain ⟨its, rv, p, _⟩ := I.list hqx
    obtain ⟨its2, rv2, p2, _⟩ := I.list hqy
    have l1 := rv.length
    have l2 := rv2.length
    have he : its.toArray[i]? = none ∨ its2.toArray[i]? = none := by
      rcases hend with q | q
      · exact .inl (by simp; omega)
      · exact .inr (by simp; omega)
    exact wpAny_pyNext_zip_end (I.ok.hd hc) D hz hTI hTO h1 h2 p.isList p2.isList he fun h' hk => ⟨rfl, I.turnedL (t' := s.toks) (ch := [z, TI, TO, i1, i2]) (fun c o hb q =>
      hk c o (fun q' => hb (by simp [q'])) (fun q' => hb (by simp [q'])) (fun q' => hb (by simp [q'])) (fun q' => hb (by simp [q'])) q) hf⟩
  self := fun A i s Q E st h => wpAny_pyIter_zip st.1 h
theorem turn_zt {P : Program} {w : World} {K : PySem.W.Frag} {elts : List Expr} {kk : Nat} {tpos : Pos} {a b z TI TO i1 i2 : Addr} (D : ZipApart z TI TO i1 i2 a b) :
    Turn P w K (.Tuple elts kk tpos) (Izt K a b) [z, TI, TO, i1, i2] z (fun i h => IsZip h z TI TO .none ∧ IsPair h TI (.ref i1) (.ref i2) ∧ (∃ x y, IsPair h TO x y) ∧ h.IsTupleIter i1 a i ∧ h.IsTupleIter i2 b i) where
  mem := by simp
  obj := fun i h st c hc => by
    obtain ⟨hz, hTI, ⟨x, y, hTO⟩, ⟨o1, e1, _, d1⟩, ⟨o2, e2, _, d2⟩⟩ := st
    have e' : c = z ∨ c = TI ∨ c = TO ∨ c = i1 ∨ c = i2 := by simpa using hc
    rcases e' with q | q | q | q | q
    · rw [q]; exact ⟨_, hz, fun v q => nomatch q⟩
    · rw [q]; exact ⟨_, hTI, fun v q => nomatch q⟩
    · rw [q]; exact ⟨_, hTO, fun v q => nomatch q⟩
    · rw [q]; exact ⟨o1, e1, fun v q => by rw [d1] at q; cases q⟩
    · rw [q]; exact ⟨o2, e2, fun v q => by rw [d2] at q; cases q⟩
  keep := fun i h h' st k => by
    obtain ⟨hz, hTI, ⟨x, y, hTO⟩, h1, h2⟩ := st
    exact ⟨k z (by simp) _ hz, k TI (by simp) _ hTI, ⟨x, y, k TO (by simp) _ hTO⟩, h1.at fun o q => k i1 (by simp) o q, h2.at fun o q => k i2 (by simp) o q⟩
  item := by
    intro X hP hw hK hc i pins s σ H E I hf st hg
    subst hP hw hK
    obtain ⟨hz, hTI, ⟨x0, y0, hTO⟩, h1, h2⟩ := st
    obtain ⟨xs, ys, x, y, hqx, hqy, hx, hy⟩ := hg
    obtain ⟨its, rv, p, _⟩ := I.tuple hqx
    obtain ⟨its2, rv2, p2, _⟩ := I.tuple hqy
    obtain ⟨u, hu, ru⟩ := rv.get hx
    obtain ⟨u2, hu2, ru2⟩ := rv2.get hy
    have hzl : z < s.heap.objs.size := Heap.lt_size hz
    refine pyNext_zipT_item D hz hTI hTO h1 h2 p p2 (x := u) (y := u2) (by simpa using hu) (by simpa using hu2) fun h' z' TO' h1' h2' hT hsz hk => ?_
    refine ⟨_, rfl, wpAny_letOwnedTupleGo_zip (s := { s with heap := h' }) z' fun h'' z'' sb => ?_⟩
    have hT2 : h''.get? s.heap.objs.size = some { cls := .type "tuple", data := .seq #[u, u2] } := (sb.2 _ (Nat.ne_of_gt hzl)).trans hT
    have new : ObjOk X.prog X.w (upd H s.heap.objs.size (.frz { cls := .type "tuple", data := .seq #[u, u2] } (.tup [x, y]))) h'' s.heap.objs.size (.frz { cls := .type "tuple", data := .seq #[u, u2] } (.tup [x, y])) :=
      ⟨hT2, by show 2 ≤ sizeLine; decide, [u, u2], .cons ru (.cons ru2 .nil), ⟨_, hT2, rfl, _, rfl⟩⟩
    have I1 : Inv X pins σ (upd H s.heap.objs.size (.frz { cls := .type "tuple", data := .seq #[u, u2] } (.tup [x, y]))) { s with heap := h'' } :=
      I.turnedNew (t' := s.toks) (ch := [z, TI, TO, i1, i2]) (fun c o hb q => (sb.2 c (fun q' => hb (by simp [q']))).trans (hk c o (fun q' => hb (by simp [q'])) (fun q' => hb (by simp [q'])) (fun q' => hb (by simp [q'])) (fun q' => hb (by simp [q'])) q)) hf (Nat.le_refl _) new
    refine ⟨.ref s.heap.objs.size, _, I1, rfl, ⟨_, x, y, _, rfl, I.hok.fresh (Nat.le_refl _), rfl, rfl, fun l hl => by rw [I.tuple_inj hl hqx]; exact hx, fun l hl => by rw [I.tuple_inj hl hqy]; exact hy⟩, ⟨z'', ?_, ⟨u, u2, ?_⟩, ?_, ?_⟩, fun c hcm => ?_⟩
    · exact (sb.2 _ D.TIz).trans (hk _ _ D.TIz D.TITO D.TIi1 D.TIi2 hTI)
    · exact (sb.2 _ D.TOz).trans TO'
    · exact h1'.at fun o q => (sb.2 _ D.i1z).trans q
    · exact h2'.at fun o q => (sb.2 _ D.i2z).trans q
    · have hlt : c < s.heap.objs.size := by
        have e' : c = z ∨ c = TI ∨ c = TO ∨ c = i1 ∨ c = i2 := by simpa using hcm
        rcases e' with q | q | q | q | q
        · rw [q]; exact hzl
        · rw [q]; exact Heap.lt_size hTI
        · rw [q]; exact Heap.lt_size hTO
        · rw [q]; obtain ⟨_, e1, _⟩ := h1; exact Heap.lt_size e1
        · rw [q]; obtain ⟨_, e2, _⟩ := h2; exact Heap.lt_size e2
      rw [upd_ne (Nat.ne_of_lt hlt)]
      exact (hf c hcm).1
  done := by
    intro X hP hw hK hc i pins s σ H E I hf st hg
    subst hP hw hK
    obtain ⟨hz, hTI, ⟨x0, y0, hTO⟩, h1, h2⟩ := st
    obtain ⟨xs, ys, hqx, hqy, hend⟩ := hg
    obtain ⟨its, rv, p, _⟩ := I.tuple hqx
    obtain ⟨its2, rv2, p2, _⟩ := I.tuple hqy
    have l1 := rv.length
    have l2 := rv2.length
    have he : its.toArray[i]? = none ∨ its2.toArray[i]? = none := by
      rcases hend with q | q
      · exact .inl (by simp; omega)
      · exact .inr (by simp; omega)
    exact pyNext_zipT_end (I.ok.hd hc) D hz hTI hTO h1 h2 p p2 he fun h' hk => ⟨rfl, I.turnedL (t' := s.toks) (ch := [z, TI, TO, i1, i2]) (fun c o hb q =>
      hk c o (fun q' => hb (by simp [q'])) (fun q' => hb (by simp [q'])) (fun q' => hb (by simp [q'])) (fun q' => hb (by simp [q'])) q) hf⟩
  self := fun A i s Q E st h => wpAny_pyIter_zip st.1 h

def iZz (K : PySem.W.Frag) (ta : TA) : TI := fun σ H R => ta σ H fun vs H1 => ∃ a b xs ys, vs = [.ref a, .ref b] ∧ ((SqL K H1 a xs ∧ SqL K H1 b ys ∧ R (Izl K a b) H1) ∨ (SqT K H1 a xs ∧ SqT K H1 b ys ∧ R (Izt K a b) H1))
theorem pi_zz {X : Cx} {e e2 : Expr} {ta : TA} {p pos tpos : Pos} {elts : List Expr} {kk : Nat} (hg : Gl X "zip") (hm : X.mg "zip" = none) (ha : PA X [e, e2] ta)
    (hs : starEach [e, e2] X.env = (false, eval e X.env) :: starEach [e2] X.env := by rfl) (hpl : (backTo pos (starEach [e2] X.env)).any (·.1) = false := by rfl) :
    PI X (.Tuple elts kk tpos) (.Call (.Name "zip" p) [e, e2] [] pos) (iZz X.K ta) := by
  refine ⟨fun pins s σ H R I h => ?_⟩
  refine Call_ (ld_blt I hg hm PyProof.Rows.boot_zip (PyProof.Rows.callWith_type1 (thn (ha.run pos pins s σ H _ I h) fun us s1 ⟨vs, H1, I1, r1, q1⟩ => ?_) hs hpl))
  obtain ⟨a, b, xs, ys, ex, q1⟩ := q1
  subst ex
  cases r1 with
  | cons r rr =>
    cases rr with
    | cons r' rr =>
      cases rr
      cases r
      cases r'
      have fresh5 : ∀ c, c ∈ [s1.heap.objs.size + 4, s1.heap.objs.size + 2, s1.heap.objs.size + 3, s1.heap.objs.size, s1.heap.objs.size + 1] → FpOk X pins H1 c := fun c hcm => by
        have e' : c = s1.heap.objs.size + 4 ∨ c = s1.heap.objs.size + 2 ∨ c = s1.heap.objs.size + 3 ∨ c = s1.heap.objs.size ∨ c = s1.heap.objs.size + 1 := by simpa using hcm
        have hle : s1.heap.objs.size ≤ c := by
          rcases e' with z | z | z | z | z
          · rw [z]; exact Nat.le_add_right _ _
          · rw [z]; exact Nat.le_add_right _ _
          · rw [z]; exact Nat.le_add_right _ _
          · rw [z]; exact Nat.le_refl _
          · rw [z]; exact Nat.le_add_right _ _
        exact I1.fpOk hle (I1.hok.fresh hle)
      rcases q1 with ⟨hqx, hqy, q⟩ | ⟨hqx, hqy, q⟩
      · obtain ⟨its, rv, p1, _⟩ := I1.list hqx
        obtain ⟨its2, rv2, p2, _⟩ := I1.list hqy
        refine call_zip_2 p1.isList p2.isList fun h' hz hTI hTO h1 h2 hsz hk => wpAny_pyIter_zip hz ?_
        have I2 : Inv X pins σ H1 { s1 with heap := h' } := I1.kept (t' := s1.toks) hk
        exact ⟨s1.heap.objs.size + 4, [s1.heap.objs.size + 4, s1.heap.objs.size + 2, s1.heap.objs.size + 3, s1.heap.objs.size, s1.heap.objs.size + 1], _, _, H1, rfl, I2, turn_zl (PySem.W.ktu_apart s1.heap.objs.size a b p1.lt p2.lt), ⟨hz, hTI, ⟨_, _, hTO⟩, h1, h2⟩, fresh5, q⟩
      · obtain ⟨its, rv, p1, _⟩ := I1.tuple hqx
        obtain ⟨its2, rv2, p2, _⟩ := I1.tuple hqy
        obtain ⟨o1, ho1, _⟩ := id p1
        obtain ⟨o2, ho2, _⟩ := id p2
        refine call_zipT (show s1.heap.IsTuple a its.toArray from p1) (show s1.heap.IsTuple b its2.toArray from p2) fun h' hz hTI hTO h1 h2 hsz hk => wpAny_pyIter_zip hz ?_
        have I2 : Inv X pins σ H1 { s1 with heap := h' } := I1.kept (t' := s1.toks) hk
        exact ⟨s1.heap.objs.size + 4, [s1.heap.objs.size + 4, s1.heap.objs.size + 2, s1.heap.objs.size + 3, s1.heap.objs.size, s1.heap.objs.size + 1], _, _, H1, rfl, I2, turn_zt (PySem.W.ktu_apart s1.heap.objs.size a b (Heap.lt_size ho1) (Heap.lt_size ho2)), ⟨hz, hTI, ⟨_, _, hTO⟩, h1, h2⟩, fresh5, q⟩
end PL

/-! for x, y in zip(a, b) -/
namespace PL
open PySem PySem.Spec L2
def zT (p : D × D) : D := .tup [p.1, p.2]
theorem zT_inj (a b : D × D) (h : zT a = zT b) : a = b := by
  have q := D.tup.inj h
  have q1 := (List.cons.inj q).1
  have q2 := (List.cons.inj (List.cons.inj q).2).1
  exact Prod.ext q1 q2
theorem setT_z (i j : Nat) (p : D × D) (ρ : Env) : setT (.tp [.nm i, .nm j]) (zT p) ρ = bnd (ret p) fun a => ret ((ρ.set i (.d a.1)).set j (.d a.2)) := by
  unfold zT
  rw [setT_tp2]
  rfl
def zipD : D → D → W (List (D × D))
  | .lst xs, .lst ys => ret (xs.zip ys)
  | .tup xs, .tup ys => ret (xs.zip ys)
  | _, _ => stuck
section
variable {G : PenK} {K : PySem.W.Frag} {S : Addr → Prop} {H : Hp} {a b : Addr} {xs ys : List D} {vs ws : List V}
theorem zip_at {i : Nat} (hi : i < (xs.zip ys).length) : i < xs.length ∧ i < ys.length := by
  rw [List.length_zip] at hi
  omega
theorem walks_zl (h : RdL S H a vs) (r : Reps K S H xs vs) (h' : RdL S H b ws) (r' : Reps K S H ys ws) : Walks G K (Izl K a b) S H ((xs.zip ys).map zT) := fun c ρ σ H2 n i g I => by
  have h2 := h.grow g
  have h2' := h'.grow g
  have r2 := Reps.grow g _ _ r
  have r2' := Reps.grow g _ _ r'
  rw [List.length_map]
  refine ⟨fun hi => ?_, fun hi => ⟨vs, ws, h2.sq, h2'.sq, by rw [r2.len, r2'.len]; rw [List.length_zip] at hi; omega⟩⟩
  obtain ⟨l1, l2⟩ := zip_at hi
  have hx : xs[i]? = some xs[i] := List.getElem?_eq_getElem l1
  have hy : ys[i]? = some ys[i] := List.getElem?_eq_getElem l2
  obtain ⟨v, e1, e2⟩ := Reps.at r2 hx
  obtain ⟨w, e3, e4⟩ := Reps.at r2' hy
  refine ⟨⟨vs, ws, v, w, h2.sq, h2'.sq, e1, e3⟩, fun u H' ⟨T, x, y, o, eu, hT, od, eH, y1, y2⟩ => ?_⟩
  have ex := y1 vs h2.sq
  have ey := y2 ws h2'.sq
  rw [e1] at ex
  rw [e3] at ey
  cases ex
  cases ey
  subst eu eH
  obtain ⟨IS, gS⟩ := I.laid (o := .frz o (.tup [v, w])) hT
  exact ⟨_, .tup [xs[i], ys[i]], gS, IS, by rw [List.getElem?_map, List.getElem?_eq_getElem hi, List.getElem_zip]; rfl, T, [v, w], rfl, .inl ⟨.inr rfl, o, upd_same, od⟩, (by show 2 ≤ sizeLine; decide), _, _, rfl, Rep.grow gS _ _ e2, _, _, rfl, Rep.grow gS _ _ e4, rfl⟩
theorem walks_zt (h : RdT K S H a vs) (r : Reps K S H xs vs) (h' : RdT K S H b ws) (r' : Reps K S H ys ws) : Walks G K (Izt K a b) S H ((xs.zip ys).map zT) := fun c ρ σ H2 n i g I => by
  have h2 := h.grow g
  have h2' := h'.grow g
  have r2 := Reps.grow g _ _ r
  have r2' := Reps.grow g _ _ r'
  rw [List.length_map]
  refine ⟨fun hi => ?_, fun hi => ⟨vs, ws, h2.sq, h2'.sq, by rw [r2.len, r2'.len]; rw [List.length_zip] at hi; omega⟩⟩
  obtain ⟨l1, l2⟩ := zip_at hi
  have hx : xs[i]? = some xs[i] := List.getElem?_eq_getElem l1
  have hy : ys[i]? = some ys[i] := List.getElem?_eq_getElem l2
  obtain ⟨v, e1, e2⟩ := Reps.at r2 hx
  obtain ⟨w, e3, e4⟩ := Reps.at r2' hy
  refine ⟨⟨vs, ws, v, w, h2.sq, h2'.sq, e1, e3⟩, fun u H' ⟨T, x, y, o, eu, hT, od, eH, y1, y2⟩ => ?_⟩
  have ex := y1 vs h2.sq
  have ey := y2 ws h2'.sq
  rw [e1] at ex
  rw [e3] at ey
  cases ex
  cases ey
  subst eu eH
  obtain ⟨IS, gS⟩ := I.laid (o := .frz o (.tup [v, w])) hT
  exact ⟨_, .tup [xs[i], ys[i]], gS, IS, by rw [List.getElem?_map, List.getElem?_eq_getElem hi, List.getElem_zip]; rfl, T, [v, w], rfl, .inl ⟨.inr rfl, o, upd_same, od⟩, (by show 2 ≤ sizeLine; decide), _, _, rfl, Rep.grow gS _ _ e2, _, _, rfl, Rep.grow gS _ _ e4, rfl⟩
end
section
variable {G : PenK} {X : Cx} {Wx : WX}
theorem w_zipZ {elts : List Expr} {kk : Nat} {tpos p pos : Pos} {a b : Expr} {ga gb : Env → W D} (hm : X.mg "zip" = none) (ha : E G X Wx a ga) (hb : E G X Wx b gb) (hg : Gl X "zip" := by rfl)
    (hs : starEach [a, b] X.env = (false, eval a X.env) :: starEach [b] X.env := by rfl) (hs2 : starEach [b] X.env = (false, eval b X.env) :: starEach [] X.env := by rfl) (hpl : (backTo pos (starEach [b] X.env)).any (·.1) = false := by rfl) :
    Wk G X Wx (.Tuple elts kk tpos) (.Call (.Name "zip" p) [a, b] [] pos) (fun ρ => bnd (bnd (ga ρ) fun x => bnd (gb ρ) fun y => zipD x y) fun ps => ret (ps.map zT)) :=
  weakI (pi_zz hg hm (a_cons ha (a_cons hb a_nil hs2) hs) hs hpl) fun σ H R ⟨c, ρ, n, P, PX, I, q, hgo, hx⟩ => by
    let F : List D → W (List D) := fun ds => match ds with
      | [x, y] => bnd (zipD x y) fun ps => ret (ps.map zT)
      | _ => stuck
    have e : (bnd (bnd (ga ρ) fun x => bnd (gb ρ) fun y => zipD x y) fun ps => ret (ps.map zT) : W (List D)) = bnd (bnd (ga ρ) fun x => bnd (bnd (gb ρ) fun x => bnd (ret []) fun xs => ret (x :: xs)) fun xs => ret (x :: xs)) F := by
      simp only [bnd_bnd, bnd_ret]
      rfl
    have q : bnd (bnd (ga ρ) fun x => bnd (gb ρ) fun y => zipD x y) (fun ps => ret (ps.map zT)) n P PX := q
    rw [e] at q
    refine tAr.bnd (g := fun ρ => bnd (ga ρ) fun x => bnd (bnd (gb ρ) fun x => bnd (ret []) fun xs => ret (x :: xs)) fun xs => ret (x :: xs)) (f := F) I q hx fun ds k us S' H' p g I' hx' r => ?_
    match ds, r, p with
    | [.lst xs, .lst ys], r, p =>
      obtain ⟨v, w, rfl, ⟨a1, vs, rfl, r1, _, q1⟩, ⟨a2, ws, rfl, r2, _, q2⟩⟩ := r.two_inv
      exact ⟨a1, a2, vs, ws, rfl, .inl ⟨r1.sq, r2.sq, hgo _ k S' H' _ p g I' (walks_zl r1 q1 r2 q2)⟩⟩
    | [.tup xs, .tup ys], r, p =>
      obtain ⟨v, w, rfl, ⟨a1, vs, rfl, r1, _, q1⟩, ⟨a2, ws, rfl, r2, _, q2⟩⟩ := r.two_inv
      exact ⟨a1, a2, vs, ws, rfl, .inr ⟨r1.sq, r2.sq, hgo _ k S' H' _ p g I' (walks_zt r1 q1 r2 q2)⟩⟩
    | [.lst xs, .tup _], _, p | [.lst xs, .non], _, p | [.lst xs, .bl _], _, p | [.lst xs, .int _], _, p | [.lst xs, .str _], _, p | [.lst xs, .dic _], _, p | [.lst xs, .ins _ _ _], _, p => exact False.elim p
    | [.tup xs, .lst _], _, p | [.tup xs, .non], _, p | [.tup xs, .bl _], _, p | [.tup xs, .int _], _, p | [.tup xs, .str _], _, p | [.tup xs, .dic _], _, p | [.tup xs, .ins _ _ _], _, p => exact False.elim p
    | [.non, y], _, p | [.bl _, y], _, p | [.int _, y], _, p | [.str _, y], _, p | [.dic _, y], _, p | [.ins _ _ _, y], _, p => exact False.elim p
    | [], _, p | [_], _, p | _ :: _ :: _ :: _, _, p => exact False.elim p
end
end PL

/-! x += e of ints; sum, max, min of ints. -/
namespace PL
open PySem PySem.Spec L2
def addI : D → D → W Int
  | .int i, .int j => ret (i + j)
  | _, _ => stuck
section
variable {G : PenK} {X : Cx} {Wx : WX} {γ : Type} {En : Enz γ} {ρ : Env} {rest : List Stmt} {m : W γ}
theorem s_augI {x : Str} {px pos : Pos} {e : Expr} {g : Env → W D} (i : Nat) (h : E G X Wx e g) (hN : X.N.Nodup) (hi : X.N[i]? = some x) (hx : Loc X.env.scope x) (hf : X.fn x = true ∨ X.env.scope.names.lookup x = some .local) :
    St1 G X Wx (.AugAssign (.Name x px) .Add e pos) (fun ρ => bnd (bnd (nm ρ i) fun old => bnd (g ρ) fun d => addI old d) fun z => ret (.nx (ρ.set i (.d (.int z))))) :=
  weakS (ps_aug hN hi hx h ip_add hf) fun Dn σ H ⟨c, ρ, n, P, PX, I, q, hg, hxx⟩ => by
    obtain ⟨old, e1, q⟩ := nm_inv (show bnd (nm ρ i) (fun old => bnd (g ρ) fun d => bnd (addI old d) fun z => ret (Out.nx (ρ.set i (.d (.int z))))) n P PX from q)
    obtain ⟨v, e2, r⟩ := I.slots i _ e1
    refine ⟨v, slot_some e2, tE.bnd (α := Out) (P := P) (f := fun d => bnd (addI old d) fun z => ret (Out.nx (ρ.set i (.d (.int z))))) I q hxx.x fun d k u S' H' p gr I' hx' r' => ?_⟩
    cases old with
    | int a =>
      cases d with
      | int b =>
        cases r
        cases r'
        exact ⟨a, b, rfl, rfl, hg.1 _ k _ S' H' p gr (I'.set (i := i) (d := .int (a + b)) (v := .int (a + b)) rfl)⟩
      | _ => exact False.elim p
    | _ => exact False.elim p
theorem sg_augI {x : Str} {px pos : Pos} {e : Expr} {g : Env → W D} {m0 : W Int} {k : Int → W γ} {ρ' : Int → Env} (i L : Nat) (h : E G X Wx e g) (hN : X.N.Nodup) (hg : (bnd (nm ρ i) fun old => bnd (g ρ) fun d => addI old d) = m0) (hL : ρ.length = L) (hiL : i < L) (hρ : ∀ a, ρ.set i (.d (.int a)) = ρ' a) (hr : ∀ a, SG G X Wx rest (ρ' a) En (k a))
    (hi : X.N[i]? = some x := by rfl) (hx : Loc X.env.scope x := by first | exact Or.inl rfl | exact Or.inr rfl) (hf : X.fn x = true ∨ X.env.scope.names.lookup x = some .local := by first | exact .inl rfl | exact .inr rfl) : SG G X Wx (.AugAssign (.Name x px) .Add e pos :: rest) ρ En (bnd m0 k) :=
  sg_stmt (s_augI i h hN hi hx hf) (by rw [hg]) (set_inj (lt_lit hL hiL) fun _ _ h => D.int.inj h) fun a => by rw [hρ]; exact hr a
end
/-! ### sums -/
section
variable {G : PenK} {X : Cx} {Wx : WX}
end
end PL

/-! a law's def over any source of draws. -/
namespace PL
open PySem PySem.Spec PyProof.Rows L2
/-- the source is made of the script -/
def spFeedK (G : PenK) (K : PySem.W.Frag) : Sp := fun vs H Q _ => ∃ (a : Addr) (ns : List Int), vs = [.ref a] ∧ SqL K H a (ns.map V.int) ∧ ns.length ≤ 63 ∧ ∀ H' p b, G.inv H' p b 0 → (∀ P ps, H P = some (.tbl ps) → H' P = some (.tbl ps)) → Q (.ref p) H'
/-- what the law's def promises, its tables of code objects empty at first -/
def spLawT (K : PySem.W.Frag) (T : List (Addr × Str)) : Sp := fun vs H Q _ => ∃ (a : Addr) (ns : List Int), vs = [.ref a] ∧ SqL K H a (ns.map V.int) ∧ ns.length ≤ 63 ∧ (∀ q ∈ T, H q.1 = some (.tbl #[])) ∧ ∀ H', Q (.bl true) H'
theorem law_defKC (G : PenK) {P : Program} {w : World} {K : PySem.W.Frag} {mg : Str → Option Value} {base : Heap} {k : Nat} {f ff : Addr} {fd fdf : FuncData} {st : Stmt} {N NR : List Str} {fn x0 x1 : Str} {px p p2 p3 px' : Pos} {rest : List Stmt} {b : W D} (F : Fun K "law" "law" st f fd) (S : FnScope N [x0] (defScope st))
    (hst : defBody st = .Assign [.Name x1 px] (.Call (.Name fn p) [.Name x0 p2] [] p3) px' :: rest) (hN : N = x0 :: x1 :: NR) (hf : (defScope st).names.lookup fn = some .globalImplicit) (hx0 : (defScope st).names.lookup x0 = some .local) (hx1 : Loc (defScope st) x1)
    (hd0 : (x0 == ("__debug__" : Str)) = false) (hc0 : (x0 == ("__classdict__" : Str)) = false) (hdf : (fn == ("__debug__" : Str)) = false)
    (GF : FnG P w K mg base k ff fdf [x0] (spFeedK G K)) (gF : mg fn = some (.ref ff)) (kF : PySem.W.keepIn K (.ref ff) = true) (bF : Binds K fdf [x0] [])
    (body : ∀ (cdv : Value) (A : Around) (outer : List PySem.Env) (s : Shared) (H : Hp) (E : XK) (Wx : WX), fd.code = cdv → A.guards = some [] → Room k (A.deeper (envOfC "law" (defScope st) s.heap.objs.size f cdv)) → Takes (cxOf (L2.CX P w) P w K mg base N "law" (defScope st) f cdv A outer s H E) Wx →
      PassesOwn (model P w) (A.deeper (envOfC "law" (defScope st) s.heap.objs.size f cdv)) (envOfC "law" (defScope st) s.heap.objs.size f cdv) (cxOf (L2.CX P w) P w K mg base N "law" (defScope st) f cdv A outer s H E).xe → SG G (cxOf (L2.CX P w) P w K mg base N "law" (defScope st) f cdv A outer s H E) Wx rest (.un :: .pen :: List.replicate NR.length .un) EnT b)
    (holds : b n0 (fun d _ => d = .bl true) (fun _ _ => False)) : FnG P w K mg base (k + 1) f fd [x0] (spLawT K G.tab) := by
  subst hN
  refine FnG.of_bodyC F S (fun vs H Q E ⟨a, ns, e, _⟩ => by rw [e]; rfl) fun cdv A outer s H vs Q E hcc hg hr ⟨a, ns, e, hS, hl, htb, q⟩ => ?_
  subst e
  have hb := body cdv A outer s H E (fun cls d _ H => E cls d H) hcc hg hr (L2.takes_of rfl rfl rfl rfl) (passes_of rfl)
  rw [hst]
  refine ⟨_, pss_cons (ps_set (i := 1) S.nd rfl hx1 (pe_callG (Wx := fun cls d _ H => E cls d H) GF hg hr (L2.takes_of rfl rfl rfl rfl) hf gF kF bF (pa_cons (pe_var (i := 0) rfl (.inl hx0) hd0 hc0) pa_nil) hdf)) hb, ?_⟩
  refine ⟨.ref a, rfl, a, ns, rfl, hS, hl, fun H' p b gp ktb => ?_⟩
  have hlen : (L2.start (x0 :: x1 :: NR) [V.ref a]).set 1 (some (.ref p)) = some (.ref a) :: some (.ref p) :: List.replicate NR.length none := by
    unfold L2.start
    show (some (V.ref a) :: (List.replicate ((NR.length + 1 + 1) - 1) none)).set 1 _ = _
    rw [Nat.add_sub_cancel, List.replicate_succ]
    rfl
  have tb : ∀ q ∈ G.tab, H' q.1 ≠ none ∧ TabI (fun _ => False) H' q.1 q.2 := fun q hq => by
    have e := ktb _ _ (htb q hq)
    refine ⟨(by rw [e]; exact fun z => (nomatch z)), #[], e, True.intro, fun pos cv z => ?_⟩
    have z : codeAmong pos [] = some cv := z
    simp [codeAmong] at z
  show tG G _ _ _ _ _ _ ((L2.start (x0 :: x1 :: NR) [V.ref a]).set 1 (some (.ref p))) H'
  rw [hlen]
  refine ⟨⟨fun _ => False, H', some (p, b), fun a => H' a ≠ none, fun _ => False⟩, n0, _, _, ⟨by simp, fun i sv e => ?_, fun i sv x e ho => ?_, fun i j sv sv' x _ e _ ho => ?_, fun _ h => h.elim, fun _ _ e _ => e, fun z e => ?_, fun _ h => ⟨fun z => z, h⟩, (fun q hq => tb q hq), (fun _ _ e => nomatch e), fun _ h => h.elim, fun _ _ => rfl⟩, holds, ⟨?_, ?_, fun _ _ _ _ _ _ z => z.elim, fun _ _ _ _ _ _ z => z.elim⟩, fun _ _ _ _ _ _ _ _ z => z.elim⟩
  · match i, e with
    | 0, e => cases e; trivial
    | 1, e => cases e; exact ⟨(p, b), rfl, rfl⟩
    | i + 2, e =>
      have e : (List.replicate NR.length SV.un)[i]? = some sv := e
      rw [List.getElem?_replicate] at e
      split at e
      · cases e; trivial
      · cases e
  · exfalso
    match i, e with
    | 0, e => cases e; cases ho
    | 1, e => cases e; cases ho
    | i + 2, e =>
      have e : (List.replicate NR.length SV.un)[i]? = some sv := e
      rw [List.getElem?_replicate] at e
      split at e
      · cases e; cases ho
      · cases e
  · exfalso
    match i, e with
    | 0, e => cases e; cases ho
    | 1, e => cases e; cases ho
    | i + 2, e =>
      have e : (List.replicate NR.length SV.un)[i]? = some sv := e
      rw [List.getElem?_replicate] at e
      split at e
      · cases e; cases ho
      · cases e
  · cases e
    exact ⟨gp, fun z => z, fun z => z, (G.there gp).1, (G.there gp).2⟩
  · rintro ρ' _ k σ' S' H2 rfl p g I
    exact nomatch (show D.non = D.bl true from p)
  · rintro d _ k v σ' ρ' S' H2 rfl p g I r
    have p : d = D.bl true := p
    subst p
    cases r
    exact q H2
/-- .. of a law without tables -/
theorem law_defK (G : PenK) {P : Program} {w : World} {K : PySem.W.Frag} {mg : Str → Option Value} {base : Heap} {k : Nat} {f ff : Addr} {fd fdf : FuncData} {st : Stmt} {N NR : List Str} {fn x0 x1 : Str} {px p p2 p3 px' : Pos} {rest : List Stmt} {b : W D} (F : Fun K "law" "law" st f fd) (S : FnScope N [x0] (defScope st))
    (hst : defBody st = .Assign [.Name x1 px] (.Call (.Name fn p) [.Name x0 p2] [] p3) px' :: rest) (hN : N = x0 :: x1 :: NR) (hf : (defScope st).names.lookup fn = some .globalImplicit) (hx0 : (defScope st).names.lookup x0 = some .local) (hx1 : Loc (defScope st) x1)
    (hd0 : (x0 == ("__debug__" : Str)) = false) (hc0 : (x0 == ("__classdict__" : Str)) = false) (hdf : (fn == ("__debug__" : Str)) = false)
    (GF : FnG P w K mg base k ff fdf [x0] (spFeedK G K)) (gF : mg fn = some (.ref ff)) (kF : PySem.W.keepIn K (.ref ff) = true) (bF : Binds K fdf [x0] [])
    (body : ∀ (cdv : Value) (A : Around) (outer : List PySem.Env) (s : Shared) (H : Hp) (E : XK) (Wx : WX), A.guards = some [] → Room k (A.deeper (envOfC "law" (defScope st) s.heap.objs.size f cdv)) → Takes (cxOf (L2.CX P w) P w K mg base N "law" (defScope st) f cdv A outer s H E) Wx →
      PassesOwn (model P w) (A.deeper (envOfC "law" (defScope st) s.heap.objs.size f cdv)) (envOfC "law" (defScope st) s.heap.objs.size f cdv) (cxOf (L2.CX P w) P w K mg base N "law" (defScope st) f cdv A outer s H E).xe → SG G (cxOf (L2.CX P w) P w K mg base N "law" (defScope st) f cdv A outer s H E) Wx rest (.un :: .pen :: List.replicate NR.length .un) EnT b)
    (holds : b n0 (fun d _ => d = .bl true) (fun _ _ => False)) (hG : G.tab = [] := by rfl) : FnG P w K mg base (k + 1) f fd [x0] (spLaw K) :=
  (law_defKC G F S hst hN hf hx0 hx1 hd0 hc0 hdf GF gF kF bF (fun cdv A outer s H E Wx _ => body cdv A outer s H E Wx) holds).imp fun vs H Q E ⟨a, ns, e, hS, hl, q⟩ => ⟨a, ns, e, hS, hl, fun q hq => (by rw [hG] at hq; cases hq), q⟩
end PL

/-! d.pop(k), d.pop(k, x) as statements; k in d. -/
namespace PL
open PySem PySem.Spec L2
def dropD (kvs : List (Key × D)) (k : Key) : List (Key × D) := kvs.filter fun kv => decide (kv.1 ≠ k)
theorem RepK.drop {K : PySem.W.Frag} {S : Addr → Prop} {H : Hp} : ∀ {kvs : List (Key × D)} {kws : List (Key × V)} (k : Key), RepK K S H kvs kws → RepK K S H (dropD kvs k) (dropK kws k)
  | [], _, k, h => by
    have e : _ = [] := h
    rw [e]
    rfl
  | (j, x) :: xs, _, k, h => by
    obtain ⟨v, ws, rfl, r, q⟩ := h
    have ih := RepK.drop k q
    unfold dropD dropK at ih ⊢
    rw [List.filter_cons, List.filter_cons]
    by_cases e : j = k
    · simp only [e, ne_eq, not_true_eq_false, decide_false, Bool.false_eq_true, if_false]
      simpa using ih
    · simp only [ne_eq, e, not_false_eq_true, decide_true, if_true]
      exact ⟨v, _, rfl, r, by simpa using ih⟩
def inW (kvs : List (Key × D)) (k : D) : W Bool := bnd (optW (keyD k)) fun kk => ret (valD kvs kk).isSome
section
variable {G : PenK} {X : Cx} {Wx : WX} {γ : Type} {En : Enz γ} {ρ : Env} {rest : List Stmt} {m : W γ}
end
section
variable {G : PenK} {X : Cx} {Wx : WX}
theorem din_law {k d : Expr} {gk gd : Env → W D} {σ : L2.St} {H : Hp} {Q : Bool → Hp → Prop} (q : tT G X Wx (fun ρ => bnd (gk ρ) fun k => bnd (gd ρ) fun x => bnd (dicW x) fun kvs => inW kvs k) σ H Q) : tDIn (tE G X Wx gk) (tE G X Wx gd) σ H (fun v H' => ∃ b, v = .bl b ∧ Q b H') := by
  obtain ⟨c, ρ, n, P, PX, I, q, hg, hx⟩ := q
  refine tE.bnd I q hx fun k k1 u S1 H1 p g I1 hx1 r1 => tE.bnd I1 p hx1 fun x k2 v S2 H2 p2 g2 I2 hx2 r2 => ?_
  cases x with
  | dic kvs =>
    obtain ⟨a, kws, rfl, ⟨hS, rd⟩, rk⟩ := r2
    obtain ⟨kk, ek, p2⟩ := optW_inv (show optW (keyD k) k2 (fun kk k => P (valD kvs kk).isSome k) PX from p2)
    obtain rfl := keyD_rep ek r1
    refine ⟨a, valV kws kk, rfl, .inl ⟨kws, kk, rd, rfl, rfl⟩, _, rfl, ?_⟩
    have e : (valV kws kk).isSome = (valD kvs kk).isSome := by
      rcases RepK.find kk rk with ⟨z1, z2⟩ | ⟨y, w, z1, z2, _⟩ <;> rw [z1, z2] <;> rfl
    rw [e]
    exact hg _ k2 S2 H2 p2 (g.trans g2) I2
  | _ => exact False.elim p2
theorem e_inD {k d : Expr} {pos : Pos} {gk gd : Env → W D} (hu : X.A.units + 1 < cLine) (hk : E G X Wx k gk) (hd : E G X Wx d gd) (hm : behindInMarks .In d = false := by rfl) :
    E G X Wx (.Compare k [.In] [d] pos) (fun ρ => bnd (gk ρ) fun k => bnd (gd ρ) fun x => bnd (dicW x) fun kvs => bnd (inW kvs k) fun b => ret (.bl b)) :=
  weakE (pe_cmp (pc_din hu hk hd) hm) fun σ H Q ⟨c, ρ, n, P, PX, I, q, hg, hx⟩ => by
    have z : tDIn (tE G X Wx gk) (tE G X Wx gd) σ H (fun v H' => ∃ b, v = .bl b ∧ Q (.bl b) H') := din_law (k := k) (d := d) ⟨c, ρ, n, fun b k => P (.bl b) k, PX, I, q, fun b k S' H' p g I' => hg (.bl b) k (.bl b) S' H' p g I' rfl, hx⟩
    obtain ⟨c1, ρ1, n1, P1, PX1, I1, q1, hg1, hx1⟩ := z
    exact ⟨c1, ρ1, n1, P1, PX1, I1, q1, fun d k v S' H' p g I' r => by
      have w := hg1 d k v S' H' p g I' r
      obtain ⟨c2, ρ2, n2, P2, PX2, I2, q2, hg2, hx2⟩ := w
      exact ⟨c2, ρ2, n2, P2, PX2, I2, q2, fun d k v S' H' p g I' r => by
        obtain ⟨a, o, e, dg, b, eb, h⟩ := hg2 d k v S' H' p g I' r
        exact ⟨a, o, e, dg, eb ▸ h⟩, hx2⟩, hx1⟩
end
end PL

set_option maxHeartbeats 2000000
/-! list(d.items()): each pair told by its object. -/
namespace PL
open PySem PySem.Spec PyProof.Rows L2 LiI
section
variable {X : Cx} {e : Expr} {te : TE} {p apos cpos pos : Pos}
end
end PL

/-! list(d.items()), by values. -/
namespace PL
open PySem PySem.Spec L2
section
variable {G : PenK} {K : PySem.W.Frag} {c : C} {σ : L2.St} {ρ : Env} {H H' : Hp} {n : Nt}
/-- several new things are laid at once -/
theorem SI.ext (I : SI G K c σ H ρ n) (k : ∀ b o, H b = some o → H' b = some o) (T : Addr → Prop) (hT : ∀ t, T t → H t = none ∧ H' t ≠ none) : SI G K (c.to fun a => c.S a ∨ T a) σ H' ρ n ∧ Grow c.S (fun a => c.S a ∨ T a) H H' := by
  have eq : ∀ a, H a ≠ none → H' a = H a := fun a h => by
    cases e : H a with
    | none => exact absurd e h
    | some o => exact k a o e
  have g : Grow c.S (fun a => c.S a ∨ T a) H H' := ⟨fun _ h => .inl h, fun a h => eq a (I.dom a h)⟩
  refine ⟨⟨I.len, fun i sv e => (I.slots i sv e).grow g fun a ea ho => eq a (I.own_there ⟨i, sv, e, ho, ea⟩), fun i sv a e ho es => ⟨fun z => z.elim (I.own i sv a e ho es).1 fun z => I.own_there ⟨i, sv, e, ho, es⟩ (hT a z).1, (I.own i sv a e ho es).2⟩, I.apart, fun a h => ?_, fun a o e hn => k a o (I.fr a o e hn), fun p e => ?_, fun a h => ⟨fun z => z.elim (I.no a h).1 fun z => (I.no a h).2 (I.freeOld (hT a z).1), (I.no a h).2⟩, fun q e => ⟨(I.tab q e).1, (I.tab q e).2.grow g (eq _ (I.tabN e).2.2)⟩, fun a nd e => ⟨(I.mu a nd e).1.grow g (eq _ (I.mu a nd e).1.there), fun z => Or.elim z (I.mu a nd e).2.1 fun z => (I.mu a nd e).1.there (hT a z).1, (I.mu a nd e).2.2⟩, I.mu0, I.mz⟩, g⟩
  · rcases h with h | h
    · rw [eq a (I.dom a h)]; exact I.dom a h
    · exact (hT a h).2
  · obtain ⟨h1, h2, h3, h4, h5⟩ := I.pen p e
    obtain ⟨k1, k2⟩ := G.there h1
    exact ⟨G.dep h1 (eq _ k1) (eq _ k2), fun z => z.elim h2 fun z => k1 (hT _ z).1, fun z => z.elim h3 fun z => k2 (hT _ z).1, h4, h5⟩
end
section
variable {G : PenK} {X : Cx} {Wx : WX}
end
end PL

namespace PL
open PySem PySem.Spec L2
/-- range of a written number, closed against unrolling -/
@[irreducible] def rngK (i : Int) : W (List Int) := rngI i
theorem rngK_eq (i : Int) : rngK i = rngI i := by unfold rngK; rfl
theorem w_rngK {G : PenK} {X : Cx} {Wx : WX} {tg e : Expr} {i : Int} (h : Wk G X Wx tg e (fun _ => bnd (bnd (ret (.int i)) rngD) fun ys => ret (ys.map .int))) : Wk G X Wx tg e (fun _ => bnd (rngK i) fun ys => ret (ys.map .int)) := by
  unfold rngK; exact h
end PL

/-! sorted of any list of pairs (text, int). -/
namespace PL
open PySem PySem.Spec PyProof.Rows L2
open SrtO hiding Str
section
variable {prog : Program} {w : World} {A : Around} {E : Value → Shared → Prop} {s : Shared}
end
section
variable {X : Cx}
end
section
variable {G : PenK} {X : Cx} {Wx : WX}
end
end PL

/-! What is never reached (raise); expressions as statements; {**d, k: v}; d.get(k, x); items of a list of one's own; while. -/
namespace PL
open PySem PySem.Spec PyProof.Rows L2
section
variable {G : PenK} {X : Cx} {Wx : WX} {γ : Type} {En : Enz γ} {ρ : Env} {rest : List Stmt} {m : W γ}
theorem sg_stuck {ss : List Stmt} : SG G X Wx ss ρ En stuck := weakSs pss_no fun Dn σ H ⟨c, n, P, PX, I, q, _⟩ => q
theorem sg_expr {e : Expr} {pos : Pos} {g : Env → W D} {m0 : W D} (h : E G X Wx e g) (hg : g (bor ρ) = m0) (hr : SG G X Wx rest ρ En m) (hs : swapsWith e none pos.line X.env = pure false := by rfl) : SG G X Wx (.Expr e pos :: rest) ρ En (bnd m0 fun _ => m) :=
  weakSs (pss_cons (ps_expr h hs) hr) fun Dn σ H ⟨c, n, P, PX, I, q, hgl, hx⟩ => by
    obtain ⟨I2, g2⟩ := I.lend
    subst hg
    refine tE.bnd (f := fun _ => m) I2 q (hx.grow g2).x fun d k' v S' H' p g I' hx' r => ?_
    obtain ⟨I3, g3⟩ := I.back g I'
    exact ⟨_, k', P, PX, I3, p, hgl.grow g3, hx.grow g3⟩
/-! ### while -/
end
/-! ### {**d, k: v} -/
section
variable {X : Cx}
end
section
variable {G : PenK} {X : Cx} {Wx : WX}
theorem OKx.blk {c : C} {σ : L2.St} {ρ : Env} {H : Hp} {n : Nt} {D : Addr} {o : HO} {PX : Exc → Nt → Prop} (I : SI G X.K c σ H ρ n) (h0 : c.H0 D = none) (hx : OKx G X Wx c σ ρ H PX) : OKx G X Wx (c.blk D o) σ ρ H PX :=
  fun x k S' H' cls dd px g J r => hx x k S' H' cls dd px g (SI.restore (vs := []) I h0 J g (fun _ _ => rfl) (fun _ _ => rfl) rfl).1 r
/-! ### d.get(k, x) -/
/-! ### items of a list of one's own -/
def nmO (ρ : Env) (i : Nat) : W (List D) := match ρ[i]? with
  | some (.own xs) => ret xs
  | _ => stuck
theorem nmO_inv {α : Type} {ρ : Env} {i : Nat} {n : Nt} {f : List D → W α} {P : α → Nt → Prop} {PX : Exc → Nt → Prop} (h : bnd (nmO ρ i) f n P PX) : ∃ xs, ρ[i]? = some (.own xs) ∧ f xs n P PX := by
  have h : nmO ρ i n (fun a k => f a k P PX) PX := h
  unfold nmO at h
  cases e : ρ[i]? with
  | none => rw [e] at h; exact False.elim h
  | some s =>
    rw [e] at h
    cases s with
    | own xs => exact ⟨xs, rfl, h⟩
    | _ => exact False.elim h
theorem e_ixOwn {x : Str} {px pos : Pos} {b : Expr} {gb : Env → W D} (i : Nat) (hb : E G X Wx b gb) (hs : PlainIx b := by intro _ _; rfl) (hN : X.N[i]? = some x := by rfl) (hv : Vis X.env.scope x := by first | exact Or.inl rfl | exact Or.inr (Or.inl rfl) | exact Or.inr (Or.inr rfl)) (hd : (x == ("__debug__" : Str)) = false := by decide) (hcd : (x == ("__classdict__" : Str)) = false := by decide) :
    E G X Wx (.Subscript (.Name x px) b pos) (fun ρ => bnd (nmO ρ i) fun xs => bnd (gb ρ) fun y => ixD (.lst xs) y) :=
  weakE (pe_ix ix_seq (pe_var hN hv hd hcd) hb hs) fun σ H Q ⟨c, ρ, n, P, PX, I, q, hg, hx⟩ => by
    obtain ⟨xs, e1, q⟩ := nmO_inv q
    obtain ⟨a, vs, e2, e3, z, r⟩ := I.slots i _ e1
    refine ⟨.ref a, slot_some e2, tE.bnd I q hx fun d k v S' H' p g I' hx' r' => ?_⟩
    obtain ⟨a', vs', e4, e5, z3, r2⟩ := I'.slots i _ e1
    rw [e2] at e4
    cases e4
    cases d with
    | int j =>
      cases r'
      have p : (match atI xs j with | some x => ret x | none => stuck : W D) k P PX := p
      cases hxx : atI xs j with
      | none => rw [hxx] at p; exact p.elim
      | some y =>
        rw [hxx] at p
        obtain ⟨m, h1, h2⟩ := atI_len r2.len hxx
        obtain ⟨u, h3, h4⟩ := Reps.at r2 h1
        exact .inl ⟨a, vs', _, u, rfl, rfl, SqL.of e5, h2 u h3, (hg.grow g).at p I' h4⟩
    | _ => exact False.elim p
theorem e_lenOwn {x : Str} {p px pos : Pos} (i : Nat) (hm : X.mg "len" = none) (hN : X.N[i]? = some x := by rfl) (hv : Vis X.env.scope x := by first | exact Or.inl rfl | exact Or.inr (Or.inl rfl) | exact Or.inr (Or.inr rfl)) (hd : (x == ("__debug__" : Str)) = false := by decide) (hcd : (x == ("__classdict__" : Str)) = false := by decide)
    (hg : Gl X "len" := by rfl) (he : starEach [.Name x px] X.env = (false, eval (.Name x px) X.env) :: starEach [] X.env := by rfl) (hpl : (backTo pos (starEach [] X.env)).any (·.1) = false := by rfl) :
    E G X Wx (.Call (.Name "len" p) [.Name x px] [] pos) (fun ρ => bnd (nmO ρ i) fun xs => ret (.int xs.length)) :=
  weakE (pe_callB call_len hg hm PySem.boot_len (pa_cons (pe_var hN hv hd hcd) pa_nil he) (by decide) (by decide) he hpl) fun σ H Q ⟨c, ρ, n, P, PX, I, q, hg, hx⟩ => by
    obtain ⟨xs, e1, q⟩ := nmO_inv q
    obtain ⟨a, vs, e2, e3, z, r⟩ := I.slots i _ e1
    exact ⟨.ref a, slot_some e2, .ref a, xs.length, rfl, .inl ⟨vs, SqL.of e3, r.len.symm⟩, hg.at (d := .int xs.length) q I rfl⟩
/-! ### a tuple of texts among the globals -/
end
end PL

/-! errors: a class over any built-in class, whose own __init__ keeps its one argument in a field. -/
namespace PL
open PySem PySem.Spec PyProof.Rows L2 PySem.Calls Builtin.ObjectAttr
/-- what the written part says of such a class -/
structure OexB (K : PySem.W.Frag) (C : Addr) (bmB : List Value) (newId : String) : Prop where
  ini : PySem.W.excInitIn K C bmB newId = true
  ovr : PySem.W.excOver K C bmB = true
  hd : PySem.W.hasDictIn K C = true
  sa : PySem.W.findIn K (.ref C) "__setattr__" = some (some (.builtin "object.__setattr__"))
  exC : PySem.W.subIn K (.ref C) (.type "BaseException") = some true
  tyC : PySem.W.typeIn K (.ref C) = some (.type "type")
  kC : PySem.W.keepIn K (.ref C) = true
section
variable {prog : Program} {w : World} {A : Around} {R : Result → Shared → Prop} {hp : Heap} {g : Array GenState} {d : Drawn} {t : Nat} {os : OsState} {B : String} {bmB : List Value}
theorem exc_osaB {K : W.Frag} {name : Str} {tk : Tok} {v : Value} {x C : Addr} {fv : Array Value} (SF : StoreFacts B bmB "object.__setattr__" "object")
    (X : K.In hp) (hx : hp.get? x = some { cls := .ref C, data := .fields fv }) (ho : W.excOver K C bmB = true) (hh : W.hasDictIn K C = true) (ha : W.findIn K (.ref C) name = some none)
    (hq : ∀ h' tk' dx, (∀ b o, b ≠ x → hp.get? b = some o → h'.get? b = some o) → hp.objs.size ≤ dx → dx ≠ x → h'.get? x = some { cls := .ref C, dict := some dx, data := .fields fv } →
      h'.Ns1 dx (fun y => if y = name then some v else none) → R (.ok (.ret .none)) ⟨h', g, d, tk', os⟩) :
    codeAny (model prog w) A (.call (.builtin "object.__setattr__") ⟨[.ref x, .str name tk, v], []⟩) R ⟨hp, g, d, t, os⟩ := by
  refine W.osa_openX (r := none) (od := none) SF X ⟨hx, rfl, rfl, trivial⟩ ho (by unfold W.takerIn; rw [ha]; rfl) fun b => ?_
  obtain ⟨cd, hc, hd⟩ := W.any_some hh
  have hxs : x ≠ hp.objs.size := Nat.ne_of_lt (Heap.lt_size hx)
  have hcls : W.Looks (model prog w) hp (classData C) cd := W.looks_clsIn X hc
  obtain ⟨nm, bs, mro, ns, qn, hd', sn, sb, ab, col, del⟩ := cd
  dsimp only at hd
  subst hd
  show wpAny _ _ (storeInOwnDict (.ref x) (.ref C) (.str name tk) name v b) _ _ _
  unfold storeInOwnDict ownDictForStores
  repeat (first | with_reducible refine HandSPX.store_in_new ?_ ?_ | with_reducible refine wpAny_loadPart_at hx ?_ | with_reducible refine hcls.at ?_ | wp_step)
  · exact ⟨_, #[], _, (Heap.get?_update_ne _ _ _ _ hxs.symm).trans (Heap.get?_push_at rfl rfl), rfl, fun e he => absurd he (by simp), fun _ => rfl⟩
  · intro h' tk' hn' hs
    have hx₁ : (hp.push { cls := .type "dict", data := .dict #[] }).get? x = some { cls := .ref C, data := .fields fv } := Heap.get?_push_of_some _ hx
    refine hq h' tk' hp.objs.size (fun b o hb ho => ?_) (Nat.le_refl _) hxs.symm ?_ hn'
    · exact (hs.2 b (Nat.ne_of_lt (Heap.lt_size ho))).trans ((Heap.get?_update_ne _ _ _ _ hb).trans (Heap.get?_push_of_some _ ho))
    · exact (hs.2 x hxs).trans (Heap.get?_update_self _ hx₁ rfl)
end
section
variable {X : Cx} {pins : List (Addr × Obj)} {σ : L2.St} {H : Hp} {s : Shared} {a C : Addr} {f : Str} {y : V} {u : Value} {Q : Unit → Shared → Prop} {E : Value → Shared → Prop} {A : Around} {B newId : String} {bmB : List Value}
/-- self.f = y, the first one -/
theorem ost_newB (SF : StoreFacts B bmB "object.__setattr__" "object") (T : OexB X.K C bmB newId) (I : Inv X pins σ H s) (e : H a = some (exo a C none)) (hno : PySem.W.findIn X.K (.ref C) f = some none) (ry : RelV y u)
    (h : ∀ dx s', H dx = none → dx ≠ a → Inv X pins σ (upd (upd H dx (exd dx [(f, y)])) a (exo a C (some dx))) s' → Q () s') : wpAny (model X.prog X.w) A (setAttr (.ref a) f u) Q E s := by
  obtain ⟨t1, ho⟩ := exo_at I.hok e
  obtain ⟨hp, g, d, t, os⟩ := s
  refine PySem.W.set_plain I.kIn (ox := { cls := .ref C, dict := none, data := .fields #[.ref t1, .none, .none, .none, .bool false, .none] }) (od := none) ⟨ho, rfl, rfl, trivial⟩ T.sa ?_
  refine exc_osaB SF I.kIn ho T.ovr T.hd hno (fun h' tk' dx k dn dne hx hn => ?_)
  have hnd : H dx = none := I.hok.fresh dn
  have old : ∀ {b : Addr} {o : Obj}, hp.get? b = some o → b ≠ dx := fun {b o} q z => absurd (Heap.lt_size (z ▸ q)) (Nat.not_lt.mpr dn)
  have ntr : ∀ {b : Addr}, H b = none → b ≠ a := fun {b} n => fun z => by rw [z, e] at n; cases n
  have sm : ∀ {b : Addr} {v : HO}, H b = some v → v ≠ exo a C none → upd (upd H dx (exd dx [(f, y)])) a (exo a C (some dx)) b = some v := fun {b v} q nv => by
    rw [upd_ne fun z => by rw [z, e] at q; exact nv (Option.some.inj q).symm, upd_ne (ne_of_none q hnd)]
    exact q
  refine h dx _ hnd dne (I.un (t' := tk') ⟨fun b o q n _ _ => k b o (ntr n) q, fun b o q n _ _ => ⟨o.slots, k b o (ntr n) q⟩, fun b o q n _ => (by rw [upd_ne (ntr n), upd_ne (old q)]; exact n), fun b o q _ => ?_, fun b xs q => sm q fun z => exo_tup z.symm, fun b o v q => sm q fun z => exo_frz z.symm, fun b ps q => ⟨#[], by rw [sm q fun z => exo_tbl z.symm]; simp⟩⟩ fun b o q => ?_)
  · rcases Classical.em (b = a) with hb | hb
    · exact ⟨_, by rw [hb]; exact hx⟩
    · exact ⟨o, k b o hb q⟩
  · rcases Classical.em (b = a) with hb | hb
    · subst hb
      rw [upd_same] at q
      cases q
      exact exo_ok hx
    · rw [upd_ne hb] at q
      rcases Classical.em (b = dx) with hd | hd
      · subst hd
        rw [upd_same] at q
        cases q
        exact exd_ok hn (relO_put (fs := []) ry fun g => True.intro)
      · rw [upd_ne hd] at q
        exact (I.hok b o q).stay (fun c v hc z => k c v (hc.elim (fun hc => hc ▸ hb) fun hc => at_ne e hc exo_own) z) (fun c hc => sm hc fun z => exo_own z.symm) fun c xs hc => sm hc fun z => exo_tup z.symm
end
section
variable {X : Cx} {o e : Expr} {to te : TE} {f : Str} {p p' pos : Pos} {B newId initId : String} {bmB : List Value}
def one1 (Q : VK) : List V → Hp → Prop
  | [y], H => Q y H
  | _, _ => False
theorem one1_inv {Q : VK} {vs : List V} {H : Hp} (h : one1 Q vs H) : ∃ y, vs = [y] ∧ Q y H := by
  unfold one1 at h
  split at h
  · exact ⟨_, rfl, h⟩
  · exact h.elim
/-- self.f = e, in an __init__: the first field -/
theorem ps_ostB {C : Addr} (SF : StoreFacts B bmB "object.__setattr__" "object") (T : OexB X.K C bmB newId) (hno : PySem.W.findIn X.K (.ref C) f = some none) (ho : PE X o to) (he : PE X e te) (hs : swapsWith e (some (.Attribute o f p')) pos.line X.env = pure false := by rfl) :
    PS X (.Assign [.Attribute o f p'] e pos) (fun D σ H => te σ H fun y H1 => to σ H1 fun x H2 => ∃ a : Addr, x = .ref a ∧ H2 a = some (exo a C none) ∧ ∀ dx, H2 dx = none → dx ≠ a → D.nx σ (upd (upd H2 dx (exd dx [(f, y)])) a (exo a C (some dx)))) := by
  refine ⟨fun pins s σ H D I h => ?_⟩
  refine plainObj_wpAny_Assign_Attribute (thn (he.run pins s σ H _ I h) fun v s1 ⟨y, H1, I1, r1, q1⟩ => thn (ho.run pins s1 σ H1 _ I1 q1) fun u s2 ⟨x, H2, I2, r2, a, ex, ea, q⟩ => ?_) hs
  subst ex
  obtain rfl : u = Value.ref a := r2
  exact ost_newB SF T I2 ea hno r1 fun dx s' n ne J => ⟨σ, _, J, q dx n ne⟩
def spIni (C : Addr) (f : Str) : Sp := fun vs H Q _ => ∃ (a : Addr) (y : V), vs = [.ref a, y] ∧ H a = some (exo a C none) ∧ ∀ dx, H dx = none → dx ≠ a → Q .non (upd (upd H dx (exd dx [(f, y)])) a (exo a C (some dx)))
/-- what is known of a class with such an __init__ -/
structure IniK (K : PySem.W.Frag) (C fI : Addr) (fd : FuncData) (bmB : List Value) (newId : String) (q : Str) (st : Stmt) (sn vn f : Str) : Prop where
  T : OexB K C bmB newId
  iC : PySem.W.findIn K (.ref C) "__init__" = some (some (.ref fI))
  tI : PySem.W.typeIn K (.ref fI) = some (.type "function")
  F : Fun K "__init__" q st fI fd
  S : FnScope [sn, vn] [sn, vn] (defScope st)
  sb : ∃ p1 p2 p3 p4, defBody st = [.Assign [.Attribute (.Name sn p1) f p2] (.Name vn p3) p4]
  hn : (sn == ("__debug__" : Str)) = false ∧ (sn == ("__classdict__" : Str)) = false ∧ (vn == ("__debug__" : Str)) = false ∧ (vn == ("__classdict__" : Str)) = false
  vs : (defScope st).names.lookup sn = some .local ∧ (defScope st).names.lookup vn = some .local
  no : PySem.W.findIn K (.ref C) f = some none
  bd : Binds K fd [sn, vn] []
theorem ini_ok {P : Program} {w : World} {K : PySem.W.Frag} {mg : Str → Option Value} {base : Heap} {C fI : Addr} {fd : FuncData} {q : Str} {st : Stmt} {sn vn : Str} (SF : StoreFacts B bmB "object.__setattr__" "object") (N : IniK K C fI fd bmB newId q st sn vn f) :
    FnOk P w K mg base (L2.CX P w) 1 fI fd [sn, vn] (spIni C f) := by
  refine Fun.okX N.F N.S (fun vs H Q E ⟨a, y, e, _⟩ => by rw [e]; rfl) fun cdv A outer s H vs Q E hr ⟨a, y, e, ea, h⟩ => ?_
  subst e
  obtain ⟨p1, p2, p3, p4, hb⟩ := N.sb
  rw [hb]
  exact ⟨_, pss_one (ps_ostB SF N.T N.no (pe_var (i := 0) rfl (.inl N.vs.1) N.hn.1 N.hn.2.1) (pe_var (i := 1) rfl (.inl N.vs.2) N.hn.2.2.1 N.hn.2.2.2)), _, rfl, _, rfl, a, rfl, ea, h⟩
theorem pmk_one {x : Str} {C fI : Addr} {fd : FuncData} {q : Str} {st : Stmt} {sn vn : Str} (SF : StoreFacts B bmB "object.__setattr__" "object") (FB : ExcBaseFacts B newId initId bmB) (N : IniK X.K C fI fd bmB newId q st sn vn f) (hr : Room 2 X.A) (hg : Gl X x) (hm : X.mg x = some (.ref C)) (ha : PE X e te)
    (hdb : (x == ("__debug__" : Str)) = false := by decide) (he : starEach [e] X.env = (false, eval e X.env) :: starEach [] X.env := by rfl) (hpl : (backTo pos (starEach [] X.env)).any (·.1) = false := by rfl) :
    PMk X (.Call (.Name x p) [e] [] pos) (fun σ H Q => te σ H fun y H1 => ∀ d, H1 d = none → Q (.ref C) (some d) (upd H1 d (.xd [(f, y)]))) := by
  intro pins s σ H Q I h
  refine wpAny_Call_Name_kw (ld_glob I hg hm ?_ hdb)
  refine PySem.W.callWith_K (h₀ := X.base) I.ok.mod.kin N.T.kC (thn ((pa_cons ha pa_nil he).run pos pins s σ H (one1 fun y H1 => ∀ d, H1 d = none → Q (.ref C) (some d) (upd H1 d (.xd [(f, y)]))) I h) fun us s1 ⟨vs, H1, I1, r1, q1⟩ => ⟨I1.kIn, ?_⟩) he hpl
  obtain ⟨y, ev, q1⟩ := one1_inv q1
  subst ev
  show wpAny _ _ (call (.ref C) us) _ _ _
  obtain ⟨nm, nsN, qn, bs, bm, hdct, sn', sub, ab, col, dd, k0, k1, k2, k3, k5, hC, hT⟩ := PySem.W.excInit_of I1.kIn N.T.ini
  have F1 := ini_ok (P := X.prog) (w := X.w) (mg := X.mg) (base := X.base) SF N
  cases r1 with
  | @cons _ u0 _ ur ra rw' =>
    cases rw'
    obtain ⟨hp, g, dr, tk, os⟩ := s1
    have hsz : hp.objs.size ≤ hp.objs.size + 1 := Nat.le_succ _
    have hn : H1 (hp.objs.size + 1) = none := I1.hok.fresh hsz
    have kk : ∀ b o, hp.get? b = some o → ((hp.push (PySem.W.kdv_tup [u0])).push (PySem.HandSPX.excO C hp.objs.size)).get? b = some o := fun b o e => Heap.get?_push_of_some _ (Heap.get?_push_of_some _ e)
    have hget : ((hp.push (PySem.W.kdv_tup [u0])).push (PySem.HandSPX.excO C hp.objs.size)).get? (hp.objs.size + 1) = some (PySem.HandSPX.excO C hp.objs.size) := by heap_get
    have I2 : Inv X pins σ (upd H1 (hp.objs.size + 1) (exo (hp.objs.size + 1) C none)) ⟨(hp.push (PySem.W.kdv_tup [u0])).push (PySem.HandSPX.excO C hp.objs.size), g, dr, tk, os⟩ :=
      I1.laid (t' := tk) (a := hp.objs.size + 1) (o := exo (hp.objs.size + 1) C none) (h' := (hp.push (PySem.W.kdv_tup [u0])).push (PySem.HandSPX.excO C hp.objs.size)) kk hsz (exo_ok hget)
    have r2 : Vals [V.ref (hp.objs.size + 1), y] [Value.ref (hp.objs.size + 1), u0] := .cons rfl (.cons ra .nil)
    refine wpAny_call (PySem.HandSPX.call_own FB hT hC (PySem.W.looks_findIn I1.kIn N.iC) (fun self => PySem.W.bind_fn I1.kIn self N.tI) (by show 1 ≤ sizeLine; rw [sizeLine_eq]; omega)
      (codeAny_mono (F1.run _ X.stack _ _ ⟨[Value.ref (hp.objs.size + 1), u0], []⟩ [Value.ref (hp.objs.size + 1), u0] _ (fun v H2 => v = .non ∧ ∃ d, H1 d = none ∧ d ≠ hp.objs.size + 1 ∧ H2 = upd (upd (upd H1 (hp.objs.size + 1) (exo (hp.objs.size + 1) C none)) d (exd d [(f, y)])) (hp.objs.size + 1) (exo (hp.objs.size + 1) C (some d))) (fun _ _ _ => False) (hr.make C [u0] []) (I2.env0.make C [u0] []) (N.bd _ [Value.ref (hp.objs.size + 1), u0] I2.kIn rfl) r2
        ⟨hp.objs.size + 1, y, rfl, upd_same, fun dx h1 h2 => ⟨rfl, dx, (upd_ne h2).symm.trans h1, h2, rfl⟩⟩) fun r s' hq' => ?_))
    cases r with
    | error er => exact (passL (X := X) pins σ _ _ er s' I2 hq')
    | ok fl =>
      cases fl with
      | ret u =>
        obtain ⟨v, H2, os2, bare2, un2, hok2, rv, ev, d, hd1, hda, rfl⟩ := hq'
        subst ev
        obtain ⟨h2, g2, d2, t2, os'⟩ := s'
        have q2 := q1 d hd1
        have eH : upd (del (upd (upd (upd H1 (hp.objs.size + 1) (exo (hp.objs.size + 1) C none)) d (exd d [(f, y)])) (hp.objs.size + 1) (exo (hp.objs.size + 1) C (some d))) (hp.objs.size + 1)) d (.xd [(f, y)]) = upd H1 d (.xd [(f, y)]) := by
          funext b
          rcases Classical.em (b = d) with e | e
          · rw [e, upd_same, upd_same]
          · rw [upd_ne e, upd_ne e]
            rcases Classical.em (b = hp.objs.size + 1) with e2 | e2
            · rw [e2, del_same, hn]
            · rw [del_ne e2, upd_ne e2, upd_ne e, upd_ne e2]
        exact ⟨rv, mk_end (raises_own N.T.exC N.T.tyC) I1 hsz kk un2 hok2 os2 bare2 upd_same (by rw [upd_ne hda, upd_same]) hd1 (by rw [eH]; exact q2)⟩
      | next => exact False.elim hq'
      | brk => exact False.elim hq'
      | cont => exact False.elim hq'
end
end PL

/-! try: .. except (X, Y, ..) as e: name = e. The error is kept in the name. -/
namespace PL
open PySem PySem.Spec PyProof.Rows L2
/-! ### the classes of a clause -/
/-! ### the names of a clause -/
abbrev Nm := Str × Pos × Value
section
variable {X : Cx} {n cn : Str} {xs : List Nm} {i i2 : Nat} {body : List Stmt} {kx : Nat} {tp p1 p2 p3 pos pos' : Pos} {tb : WX → TS}
end
end PL

/-! The layer: raise, try that keeps its error, isinstance of an error that was kept, its field. -/
namespace PL
open PySem PySem.Spec PyProof.Rows L2
/-! ### classes of errors -/
/-- the names of the errors with the names of their classes -/
abbrev ETab := List (Str × List Str)
def isS (t : ETab) (y c : Str) : Bool := ((t.lookup y).getD []).contains c
def kn (t : ETab) (y : Str) : Bool := (t.lookup y).isSome
structure ErrI (K : PySem.W.Frag) (mg : Str → Option Value) (t : ETab) (cs : List (Str × Value)) : Prop where
  ex : ∀ y A, mg y = some (.ref A) → kn t y = true → ExcC K A
  is : ∀ y A, mg y = some (.ref A) → kn t y = true → ∀ p ∈ cs, PySem.W.kitOne K (.ref A) p.2 = some (isS t y p.1) ∧ PySem.W.exmOne K (.ref A) p.2 = some (isS t y p.1)
def excCB (K : PySem.W.Frag) (D : Addr) : Bool := (PySem.W.findIn K (.ref D) "__getattribute__" == some (some (.builtin "BaseException.__getattribute__"))) && (PySem.W.findIn K (.ref D) "__getattr__" == some none) && (PySem.W.subIn K (.ref D) (.type "BaseException") == some true) && PySem.W.hasDictIn K D &&
  (PySem.W.findIn K (.ref D) "__class__" == some (some (.builtin "object.__class__"))) && (PySem.W.specialIn K (.builtin "object.__class__") "__get__" == some (some (.builtin "getset_descriptor.__get__"))) && (PySem.W.takesIn K (.builtin "object.__class__") == some true) && (PySem.W.mroIn K D (.type "object") == some true)
theorem excCB_ok {K : PySem.W.Frag} {D : Addr} (h : excCB K D = true) : ExcC K D := by
  unfold excCB at h
  simp only [Bool.and_eq_true, beq_iff_eq] at h
  obtain ⟨⟨⟨⟨⟨⟨⟨h1, h2⟩, h3⟩, h4⟩, h5⟩, h6⟩, h7⟩, h8⟩ := h
  exact ⟨h1, h2, h3, h4, h5, h6, h7, h8⟩
def errChk (K : PySem.W.Frag) (t : ETab) (as : List (Str × Addr)) (cs : List (Str × Value)) : Bool :=
  as.all fun a => excCB K a.2 && cs.all fun p => (PySem.W.kitOne K (.ref a.2) p.2 == some (isS t a.1 p.1)) && (PySem.W.exmOne K (.ref a.2) p.2 == some (isS t a.1 p.1))
theorem errI_of {K : PySem.W.Frag} {mg : Str → Option Value} {t : ETab} {as : List (Str × Addr)} {cs : List (Str × Value)} (hm : ∀ a ∈ as, mg a.1 = some (.ref a.2)) (hk : t.all (fun p => as.any fun a => a.1 == p.1) = true) (h : errChk K t as cs = true) : ErrI K mg t cs := by
  have key : ∀ y A, mg y = some (.ref A) → kn t y = true → (y, A) ∈ as := fun y A e k => by
    unfold kn at k
    obtain ⟨l, hl⟩ := Option.isSome_iff_exists.mp k
    have hy : (y, l) ∈ t := PySem.mem_of_lookup hl
    obtain ⟨a, ha, he⟩ := List.any_eq_true.mp (List.all_eq_true.mp hk _ hy)
    have e2 : a.1 = y := eq_of_beq he
    have e3 := hm a ha
    rw [e2, e] at e3
    have e4 : A = a.2 := by cases e3; rfl
    rw [← e2, e4]
    exact ha
  have all := List.all_eq_true.mp h
  refine ⟨fun y A e k => ?_, fun y A e k p hp => ?_⟩
  · have q := all _ (key y A e k)
    rw [Bool.and_eq_true] at q
    exact excCB_ok q.1
  · have q := all _ (key y A e k)
    rw [Bool.and_eq_true] at q
    have q2 := List.all_eq_true.mp q.2 p hp
    rw [Bool.and_eq_true, beq_iff_eq, beq_iff_eq] at q2
    exact q2
/-! ### names take anything that is not one's own -/
section
variable {G : PenK} {K : PySem.W.Frag} {c : C} {σ : L2.St} {ρ : Env} {H : Hp} {n : Nt}
end

section
variable {G : PenK} {X : Cx} {Wx : WX} {γ : Type} {En : Enz γ} {ρ : Env} {rest : List Stmt} {m : W γ}
/-! ### raise -/
/-- an error's class with one field, over some built-in class -/
def ErrK (K : PySem.W.Frag) (mg : Str → Option Value) (x f : Str) : Prop :=
  ∃ (B newId initId : String) (bmB : List Value) (C fI : Addr) (fd : FuncData) (q : Str) (st : Stmt) (sn vn : Str), StoreFacts B bmB "object.__setattr__" "object" ∧ ExcBaseFacts B newId initId bmB ∧ IniK K C fI fd bmB newId q st sn vn f ∧ mg x = some (.ref C)
theorem sg_raise1 {x f : Str} {e : Expr} {p q pos : Pos} {g : Env → W D} {m0 : W D} (k : ErrK X.K X.mg x f) (hc : X.calm = true) (hr : Room 2 X.A) (tk : Takes X Wx) (h : E G X Wx e g) (hg : g (bor ρ) = m0) (hx : Gl X x)
    (hdb : (x == ("__debug__" : Str)) = false := by decide) (he : starEach [e] X.env = (false, eval e X.env) :: starEach [] X.env := by rfl) (hpl : (backTo q (starEach [] X.env)).any (·.1) = false := by rfl) :
    SG G X Wx (.Raise (some (.Call (.Name x p) [e] [] q)) none pos :: rest) ρ En (bnd m0 fun d => rse (x, [(f, d)])) := by
  obtain ⟨B, newId, initId, bmB, C, fI, fd, qn, st, sn, vn, SF, FB, N, hm⟩ := k
  refine weakSs (pss_cons (ps_raise hc tk (pmk_one SF FB N hr hx hm h hdb he hpl)) pss_no) fun Dn σ H ⟨c, n, P, PX, I, q, hgl, hxx⟩ => ?_
  obtain ⟨I2, g2⟩ := I.lend
  subst hg
  refine tE.bnd (f := fun d => (rse (x, [(f, d)]) : W γ)) I2 q (hxx.grow g2).x fun d k v S' H' p g I' hx' r dd hdd => ?_
  obtain ⟨I3, g3⟩ := I'.laid (o := .xd [(f, v)]) hdd
  exact hx' (x, [(f, d)]) k _ _ _ _ p g3 I3 ⟨C, hm, rfl, .inr ⟨dd, _, rfl, .inr rfl, upd_same, .cons ⟨rfl, Rep.grow g3 _ _ r⟩ .nil⟩⟩
/-! ### try -/
end
end PL

/-! The layer: isinstance of an error that was kept, its field. -/
namespace PL
open PySem PySem.Spec PyProof.Rows L2
/-! ### isinstance -/
def XAt (H : Hp) (a D : Addr) : Prop := ∃ dd : Option Addr, H a = some (ErrO (.ref D) dd a) ∧ (dd = none ∨ ∃ d fv, dd = some d ∧ H d = some (.xd fv))
section
variable {G : PenK} {X : Cx} {Wx : WX} {γ : Type} {En : Enz γ} {ρ : Env} {rest : List Stmt} {m : W γ}
theorem SI.exc {K : PySem.W.Frag} {c : C} {σ : L2.St} {H : Hp} {n : Nt} {i : Nat} {x : Exc} (I : SI G K c σ H ρ n) (e : ρ[i]? = some (.exc x)) : ∃ a D dd, slot σ i = some (.ref a) ∧ XAt H a D ∧ G.mg x.1 = some (.ref D) ∧ H a = some (ErrO (.ref D) dd a) ∧ RepX K G.mg c.S H x (.ref D) dd := by
  obtain ⟨a, cls, dd, e1, hs, ha, r⟩ := I.slots i _ e
  obtain ⟨D, h1, h2, h3⟩ := id r
  subst h2
  exact ⟨a, D, dd, e1, ⟨dd, ha, h3.elim (fun z => .inl z.2) fun ⟨d, fv, e, _, hd, _⟩ => .inr ⟨d, fv, e, hd⟩⟩, h1, ha, r⟩
end
end PL

/-! The layer: a lambda handed to a def. -/
namespace PL
open PySem PySem.Spec PyProof.Rows L2 LamX
section
variable {G : PenK} {K : PySem.W.Frag} {c : C} {σ : L2.St} {ρ : Env} {H : Hp} {n : Nt}
/-- a code object is made, its table is longer -/
theorem SI.code {P c' : Addr} {q : Str} {ps : Array Value} {pos : Pos} (J : SI G K c σ H ρ n) (hq : (P, q) ∈ G.tab) (hu : ∀ p ∈ G.tab, p.1 = P → p.2 = q) (hP : H P = some (.tbl ps)) (hT : TriplesOk ps.toList) (ho : ∀ (pos : Pos) (cv : Value), codeAmong pos ps.toList = some cv → ∃ c0, cv = .ref c0 ∧ c.S c0 ∧ H c0 = some (CodeO c0 q)) (nC : H c' = none) :
    SI G K (c.to fun a => c.S a ∨ a = c') σ (upd (upd H P (.tbl (ps ++ #[rawInt pos.line, rawInt pos.col, .ref c']))) c' (CodeO c' q)) ρ n ∧ Grow c.S (fun a => c.S a ∨ a = c') H (upd (upd H P (.tbl (ps ++ #[rawInt pos.line, rawInt pos.col, .ref c']))) c' (CodeO c' q)) := by
  have nPc : P ≠ c' := ne_of_none hP nC
  have at_ : ∀ b, b ≠ P → b ≠ c' → upd (upd H P (.tbl (ps ++ #[rawInt pos.line, rawInt pos.col, .ref c']))) c' (CodeO c' q) b = H b := fun b h1 h2 => by rw [upd_ne h2, upd_ne h1]
  have atP : upd (upd H P (.tbl (ps ++ #[rawInt pos.line, rawInt pos.col, .ref c']))) c' (CodeO c' q) P = some (.tbl (ps ++ #[rawInt pos.line, rawInt pos.col, .ref c'])) := by rw [upd_ne nPc, upd_same]
  have tN := J.tabN hq
  have ne : ∀ b, H b ≠ none → b ≠ c' := fun b h z => h (z ▸ nC)
  have eqS : ∀ b, c.S b → upd (upd H P (.tbl (ps ++ #[rawInt pos.line, rawInt pos.col, .ref c']))) c' (CodeO c' q) b = H b := fun b h => at_ b (fun z => tN.1 (z ▸ h)) (ne b (J.dom b h))
  have g : Grow c.S (fun a => c.S a ∨ a = c') H (upd (upd H P (.tbl (ps ++ #[rawInt pos.line, rawInt pos.col, .ref c']))) c' (CodeO c' q)) := ⟨fun _ h => .inl h, eqS⟩
  have ownN : ∀ a, ownS ρ σ a → a ≠ P := fun a ⟨i, sv, e, h, es⟩ z => tN.2.1 (z ▸ (J.own i sv a e h es).2.1)
  have eL : (ps ++ #[rawInt pos.line, rawInt pos.col, .ref c']).toList = ps.toList ++ [rawInt pos.line, rawInt pos.col, .ref c'] := by simp
  refine ⟨⟨J.len, fun i sv e => (J.slots i sv e).grow g fun a ea h => at_ a (ownN a ⟨i, sv, e, h, ea⟩) (ne a (J.own_there ⟨i, sv, e, h, ea⟩)), fun i sv a e h es => ⟨fun z => z.elim (J.own i sv a e h es).1 fun z => ne a (J.own_there ⟨i, sv, e, h, es⟩) z, (J.own i sv a e h es).2⟩, J.apart, fun a h => ?_, fun a o e hn => ?_, fun p e => ?_,
    fun a h => ⟨fun z => z.elim (J.no a h).1 fun z => (J.no a h).2 (z ▸ J.freeOld nC), (J.no a h).2⟩, fun p hp => ⟨(J.tab p hp).1, ?_⟩, fun b nd e => ⟨(J.mu b nd e).1.grow g (at_ b (fun z => (J.mu b nd e).2.2.2 (.inr ⟨_, hq, z⟩)) (ne b (J.mu b nd e).1.there)), fun z => Or.elim z (J.mu b nd e).2.1 (ne b (J.mu b nd e).1.there), (J.mu b nd e).2.2⟩, J.mu0, J.mz⟩, g⟩
  · rcases h with h | h
    · rw [eqS a h]; exact J.dom a h
    · rw [h, upd_same]; exact fun z => nomatch z
  · have q1 := J.fr a o e hn
    rw [at_ a (fun z => hn (.inl (.inr ⟨_, hq, z⟩))) (ne a (by rw [q1]; exact fun z => nomatch z))]
    exact q1
  · obtain ⟨h1, h2, h3, h4, h5⟩ := J.pen p e
    obtain ⟨⟨xs, e1⟩, ys, e2⟩ := G.isL h1
    have nl : ∀ b xs, H b = some (.lst xs) → b ≠ P := fun b xs h z => by rw [z, hP] at h; cases h
    exact ⟨G.dep h1 (at_ _ (nl _ _ e1) (ne_of_none e1 nC)) (at_ _ (nl _ _ e2) (ne_of_none e2 nC)), fun z => z.elim h2 (ne_of_none e1 nC), fun z => z.elim h3 (ne_of_none e2 nC), h4, h5⟩
  · rcases Classical.em (p.1 = P) with hb | hb
    · rw [hu p hp hb, hb]
      refine ⟨_, atP, by rw [eL]; exact PySem.TriplesOk_snoc _ _ _ _ hT, fun p' cv hcv => ?_⟩
      rw [eL] at hcv
      rcases among_app _ hT hcv with z | z
      · obtain ⟨c0, e1, e2, e3⟩ := ho p' cv z
        exact ⟨c0, e1, .inl e2, (eqS c0 e2).trans e3⟩
      · exact ⟨c', z, .inr rfl, upd_same⟩
    · exact (J.tab p hp).2.grow g (at_ _ hb (ne _ (J.tabN hp).2.2))
end
section
variable {G : PenK} {X : Cx} {pins : List (Addr × Obj)} {σ : L2.St} {H : Hp} {s : Shared} {c : C} {ρ : Env} {n : Nt}
end
end PL

/-! The layer: a lambda handed to a def, called there; the call of such a def. -/
namespace PL
open PySem PySem.Spec PyProof.Rows L2 LamX
def emb1 : Option D → SV
  | some x => .d x
  | none => .un
abbrev embs (ds : List (Option D)) : Env := ds.map emb1
section
variable {G : PenK} {X : Cx} {pins : List (Addr × Obj)} {σ : L2.St} {H : Hp} {s : Shared}
/-- the state of the lambda's names where it is called -/
theorem SI.lam {K : PySem.W.Frag} {c : C} {τ : L2.St} {ρ : Env} {n : Nt} {b : Addr} {q : Str} {ds : List (Option D)} (J : SI G K c τ H ρ n) (h : LamOk K c.S H b q σ ds) : SI G K ⟨c.S, H, c.pen, fun a => H a ≠ none ∧ ¬ c.S a, fun a => n.μ a ≠ none⟩ σ H (embs ds) n := by
  obtain ⟨_, _, hl, hd⟩ := h
  have key : ∀ (i : Nat) (sv : SV), (embs ds)[i]? = some sv → sv = .un ∨ ∃ x, sv = .d x ∧ ds[i]? = some (some x) := fun i sv e => by
    rw [List.getElem?_map] at e
    cases z : ds[i]? with
    | none => rw [z] at e; cases e
    | some o =>
      rw [z] at e
      cases o with
      | none => cases e; exact .inl rfl
      | some x => cases e; exact .inr ⟨x, rfl, rfl⟩
  have no : ∀ (i : Nat) (sv : SV), (embs ds)[i]? = some sv → sv.isOwn = true → False := fun i sv e ho => by
    rcases key i sv e with rfl | ⟨x, rfl, _⟩ <;> cases ho
  refine ⟨by rw [List.length_map, hl], fun i sv e => ?_, fun i sv a e ho => (no i sv e ho).elim, fun i j sv sv' a _ e _ ho => (no i sv e ho).elim, J.dom, fun a o e _ => e, fun p e => ?_, fun a h => ⟨h.2, h.1⟩, fun p hp => ⟨⟨(J.tabN hp).2.2, (J.tabN hp).1⟩, (J.tab p hp).2⟩, fun a nd e => ⟨(J.mu a nd e).1, (J.mu a nd e).2.1, .inl (by show n.μ a ≠ none; rw [e]; exact fun z => nomatch z), (J.mu a nd e).2.2.2⟩, fun a h => ⟨h, (J.muS h).2⟩, J.mz⟩
  · rcases key i sv e with rfl | ⟨x, rfl, e2⟩
    · trivial
    · exact hd i x e2
  · obtain ⟨h1, h2, h3, _⟩ := J.pen p e
    obtain ⟨k1, k2⟩ := G.there h1
    exact ⟨h1, h2, h3, k1, k2⟩
end
section
variable {G : PenK} {X : Cx} {Wx : WX}
end
end PL

/-! The layer: the end of a law's row, with tables of code objects. -/
namespace PL
open PySem PySem.Spec PyProof.Rows L2 LamX
section
variable {P : Program} {w : World} {K : PySem.W.Frag} {mg mb : Str → Option Value}
/-- the tables of the module's defs are empty -/
def TabsOf (q : Program) (mg : Str → Option Value) (h : Heap) : Prop := ∀ x : Str, ((recsOf q).any fun e => e.name == x) = true → ∃ a o fd c P, mg x = some (.ref a) ∧ h.get? a = some o ∧ o.data = .func fd ∧ fd.code = .ref c ∧ h.IsCode c P #[] ∧ h.TableAt c P #[]
theorem TabsOf.at {K : PySem.W.Frag} {q : Program} {mg : Str → Option Value} {h : Heap} {x : Str} {f c P : Addr} {fd : FuncData} {oc : Value} {od : Option Addr} {osl : Array (Option Value)} (T : TabsOf q mg h) (hx : ((recsOf q).any fun e => e.name == x) = true) (X : K.In h) (hm : mg x = some (.ref f)) (lk : K.lookup f = some ⟨oc, od, .func fd, osl⟩)
    (ct : fd.code = .ref c ∧ ∃ (o : Obj) (vs : Array Value), h.get? c = some o ∧ o.data = .fields vs ∧ vs[11]? = some (.ref P)) : PySem.W.CodeHd h c P ∧ h.get? P = some { cls := .none, data := .fields #[] } := by
  obtain ⟨a, o, fd', c', P', h1, h2, h3, h4, h5, h6⟩ := T x hx
  rw [hm] at h1
  cases h1
  have g1 := X _ _ lk
  rw [h2] at g1
  cases g1
  cases h3
  obtain ⟨e1, o1, vs, e2, e3, e4⟩ := ct
  rw [h4] at e1
  cases e1
  obtain ⟨⟨o2, vs2, f1, f2, f3, f4⟩, f5⟩ := id h6
  rw [e2] at f1
  cases f1
  rw [e3] at f3
  cases f3
  rw [e4] at f4
  cases f4
  exact ⟨.of h5 h6, f5⟩
end
end PL

/-! The layer: count and index of a list of truth values. -/
namespace PL
open PySem PySem.Spec L2
section
variable {X : Cx}
end
section
variable {G : PenK} {X : Cx} {Wx : WX}
theorem nmB {x : Str} {c : Value} (hd : (x == ("__debug__" : Str)) = false) (hm : X.mg x = none) (hv : bootBuiltins x = some c) (hn : x ≠ "__name__") (hg : Gl X x := by rfl) : Names X x c := ⟨hg, hd, .inr ⟨hm, hv, hn⟩⟩
/-- the clauses of a list, one by one -/
theorem ap_nil {α : Type} {p : α → Prop} : ∀ x ∈ ([] : List α), p x := fun _ h => nomatch h
theorem ap_cons {α : Type} {p : α → Prop} {a : α} {l : List α} (h : p a) (t : ∀ x ∈ l, p x) : ∀ x ∈ a :: l, p x := fun x hx => by
  rcases List.mem_cons.mp hx with e | e
  · rw [e]; exact h
  · exact t x e
/-- the def statement j of a class's body -/
def clsDef (s : Stmt) (j : Nat) : Stmt := match s with
  | .ClassDef _ _ _ body _ _ _ _ _ _ _ => body.getD j (.Pass ⟨0, 0, 0, 0⟩)
  | _ => .Pass ⟨0, 0, 0, 0⟩
/-- what the kernel reads of an error's class -/
def oexChk (K : PySem.W.Frag) (C : Addr) (bmB : List Value) (newId : String) (f : Str) : Bool := PySem.W.excInitIn K C bmB newId && PySem.W.excOver K C bmB && PySem.W.hasDictIn K C && (PySem.W.findIn K (.ref C) "__setattr__" == some (some (.builtin "object.__setattr__"))) &&
  (PySem.W.subIn K (.ref C) (.type "BaseException") == some true) && (PySem.W.typeIn K (.ref C) == some (.type "type")) && PySem.W.keepIn K (.ref C) && (PySem.W.findIn K (.ref C) f == some none)
theorem oexChk_ok {K : PySem.W.Frag} {C : Addr} {bmB : List Value} {newId : String} {f : Str} (h : oexChk K C bmB newId f = true) : OexB K C bmB newId ∧ PySem.W.findIn K (.ref C) f = some none := by
  unfold oexChk at h
  simp only [Bool.and_eq_true, beq_iff_eq] at h
  obtain ⟨⟨⟨⟨⟨⟨⟨h1, h2⟩, h3⟩, h4⟩, h5⟩, h6⟩, h7⟩, h8⟩ := h
  exact ⟨⟨h1, h2, h3, h4, h5, h6, h7⟩, h8⟩
theorem errI_of2 {K : PySem.W.Frag} {mg : Str → Option Value} {t : ETab} {as : List (Str × Addr)} {ns : List Str} {cs : List (Str × Value)} (hm : ∀ a ∈ as, mg a.1 = some (.ref a.2)) (hns : as.map (·.1) = ns) (hk : t.all (fun p => ns.any fun a => a == p.1) = true) (h : errChk K t as cs = true) : ErrI K mg t cs :=
  errI_of hm (by rw [← hk, ← hns]; congr 1; funext p; rw [List.any_map]; rfl) h
end
end PL

/-! errors: raise X() of a class without fields. -/
namespace PL
open PySem PySem.Spec PyProof.Rows L2
section
variable {X : Cx} {C : Addr} {bmB : List Value} {B newId initId : String}
/-- X() -/
theorem pmk_own0 {x : Str} {p pos : Pos} (F : ExcBaseFacts B newId initId bmB) (q : PySem.W.excIn X.K C bmB newId = true) (gC : X.mg x = some (.ref C)) (kC : PySem.W.keepIn X.K (.ref C) = true) (r : Raises X (.ref C)) (hg : Gl X x)
    (hdb : (x == ("__debug__" : Str)) = false := by decide) : PMk X (.Call (.Name x p) [] [] pos) (fun _ H Q => Q (.ref C) none H) := by
  intro pins s σ H Q I h
  refine wpAny_Call_Name_kw (ld_glob I hg gC ?_ hdb)
  refine PySem.W.callWith_K0 I.kIn kC ?_
  show wpAny _ _ (call (.ref C) []) _ _ _
  obtain ⟨bm, N, nm, qn, bs, hdct, sn, sub, ab, col, dd, k0, k1, k2, k3, k5, mN, hC, hN, hni, T⟩ := exc_obj I.kIn q
  refine wpAny_call_exc_subT F T hC hN hni (fun h' e hm => ?_) (by show 0 ≤ sizeLine; exact Nat.zero_le _)
  exact mk_of I hm r h (I.hok.gone hm.new)
end
def ErrK0 (K : PySem.W.Frag) (mg : Str → Option Value) (x : Str) : Prop :=
  ∃ (B newId initId : String) (bmB : List Value) (C : Addr), ExcBaseFacts B newId initId bmB ∧ PySem.W.excIn K C bmB newId = true ∧ PySem.W.keepIn K (.ref C) = true ∧ PySem.W.subIn K (.ref C) (.type "BaseException") = some true ∧ PySem.W.typeIn K (.ref C) = some (.type "type") ∧ mg x = some (.ref C)
def oex0Chk (K : PySem.W.Frag) (C : Addr) (bmB : List Value) (newId : String) : Bool := PySem.W.excIn K C bmB newId && PySem.W.keepIn K (.ref C) && (PySem.W.subIn K (.ref C) (.type "BaseException") == some true) && (PySem.W.typeIn K (.ref C) == some (.type "type"))
theorem errK0_of {K : PySem.W.Frag} {mg : Str → Option Value} {x : Str} {B newId initId : String} {bmB : List Value} {C : Addr} (F : ExcBaseFacts B newId initId bmB) (h : oex0Chk K C bmB newId = true) (hm : mg x = some (.ref C)) : ErrK0 K mg x := by
  unfold oex0Chk at h
  simp only [Bool.and_eq_true, beq_iff_eq] at h
  obtain ⟨⟨⟨h1, h2⟩, h3⟩, h4⟩ := h
  exact ⟨B, newId, initId, bmB, C, F, h1, h2, h3, h4, hm⟩
section
variable {G : PenK} {X : Cx} {Wx : WX} {γ : Type} {En : Enz γ} {ρ : Env} {rest : List Stmt} {m : W γ}
end
end PL

/-! The layer: min(xs, default=None) of ints. -/
namespace PL
open PySem PySem.Spec PyProof.Rows L2
section
variable {G : PenK} {X : Cx} {Wx : WX}
end
end PL

/-! The layer: objects that are changed (lists of data without parts, of objects), told in the state. -/
namespace PL
open PySem PySem.Spec PyProof.Rows L2
def PenK.wc (G : PenK) (b : Bool) : PenK := { G with chg := b }
def setM (μ : Addr → Option Nd) (a : Addr) (nd : Nd) : Addr → Option Nd := fun b => if b = a then some nd else μ b
theorem setM_same {μ : Addr → Option Nd} {a : Addr} {nd : Nd} : setM μ a nd a = some nd := if_pos rfl
theorem setM_ne {μ : Addr → Option Nd} {a b : Addr} {nd : Nd} (h : b ≠ a) : setM μ a nd b = μ b := if_neg h
theorem setM_some {μ : Addr → Option Nd} {a b : Addr} {nd : Nd} (h : μ b ≠ none) : setM μ a nd b ≠ none := by
  unfold setM
  split
  · exact fun z => nomatch z
  · exact h
section
variable {G : PenK} {K : PySem.W.Frag} {c : C} {σ : L2.St} {ρ : Env} {H : Hp} {n : Nt} {a : Addr} {o : HO} {nd : Nd}
/-- an object is changed -/
theorem SI.st (I : SI G K c σ H ρ n) (ha : n.μ a ≠ none) (r : NdOk K c.S (upd H a o) a nd) : SI G K c σ (upd H a o) ρ ⟨n.n, setM n.μ a nd⟩ ∧ Grow c.S c.S H (upd H a o) := by
  obtain ⟨nd0, e0⟩ := Option.ne_none_iff_exists'.mp ha
  obtain ⟨m1, m2, m3, m4⟩ := I.mu a nd0 e0
  have g : Grow c.S c.S H (upd H a o) := ⟨fun _ q => q, fun b q => upd_ne fun z => m2 (z ▸ q)⟩
  have neO : ∀ i sv b, ρ[i]? = some sv → sv.isOwn = true → slot σ i = some (.ref b) → b ≠ a := fun i sv b e ho es z => by
    have := (I.own i sv b e ho es).2.2
    rw [z, e0] at this
    cases this
  refine ⟨⟨I.len, fun i sv e => (I.slots i sv e).grow g fun b eb ho => upd_ne (neO i sv b e ho eb), fun i sv b e ho es => ⟨(I.own i sv b e ho es).1, (I.own i sv b e ho es).2.1, ?_⟩, I.apart, fun b q => by rw [g.eq b q]; exact I.dom b q, fun b u e hn => ?_, fun p e => ?_, I.no, fun q e => ⟨(I.tab q e).1, (I.tab q e).2.grow g (upd_ne fun z => m4 (.inr ⟨q, e, z.symm⟩))⟩, fun b md e => ?_, fun b h => ⟨setM_some (I.mu0 b h).1, (I.mu0 b h).2⟩, fun z => ?_⟩, g⟩
  · show setM n.μ a nd b = none
    rw [setM_ne (neO i sv b e ho es)]
    exact (I.own i sv b e ho es).2.2
  · rw [upd_ne fun z => by
      rcases m3 with w | w
      · exact hn (.inr (z ▸ w))
      · rw [z, w] at e; cases e]
    exact I.fr b u e hn
  · obtain ⟨h1, h2, h3, h4, h5⟩ := I.pen p e
    exact ⟨G.dep h1 (upd_ne fun z => m4 (.inl ⟨p, e, .inl z.symm⟩)) (upd_ne fun z => m4 (.inl ⟨p, e, .inr z.symm⟩)), h2, h3, h4, h5⟩
  · have e : setM n.μ a nd b = some md := e
    by_cases z : b = a
    · rw [z] at e ⊢
      rw [setM_same] at e
      cases e
      exact ⟨r, m2, m3, m4⟩
    · rw [setM_ne z] at e
      exact ⟨(I.mu b md e).1.move (upd_ne z), (I.mu b md e).2⟩
  · have := I.mz z a
    rw [e0] at this
    cases this
end
/-! ### a name that holds an object -/
def lstM (n : Nt) (a : Addr) : Option (List Ob) := match n.μ a with
  | some (.lst xs) => some xs
  | _ => none
/-- what stands at a place of an object: data -/
def ixOb (a : Addr) (d : D) : W D := fun n P _ => ∃ (xs : List Ob) (j : Int) (x : D), lstM n a = some xs ∧ d = .int j ∧ atI xs j = some (.d x) ∧ P x n
/-- a new object -/
def mkL (xs : List D) : W Addr := fun n P _ => xs.all D.sc = true ∧ ∀ a, n.μ a = none → P a ⟨n.n, setM n.μ a (.lst (xs.map .d))⟩
section
variable {G : PenK} {X : Cx} {Wx : WX} {γ : Type} {En : Enz γ} {ρ : Env} {rest : List Stmt} {m : W γ}
/-! ### objects as arguments -/
end
/-! ### an item of a list of one's own is set -/
section
variable {G : PenK} {X : Cx} {Wx : WX} {γ : Type} {En : Enz γ} {ρ : Env} {rest : List Stmt} {m : W γ}
end
end PL

/-! The layer: x in a list of data of any depth. -/
namespace PL
open PySem PySem.Spec PyProof.Rows L2
section
variable {G : PenK} {X : Cx} {Wx : WX}
variable {γ : Type} {En : Enz γ} {ρ ρ' : Env} {rest : List Stmt} {m : W γ}
end
end PL

/-! Plain laws with objects: GenM S m c Q says that m, begun where S holds of the objects, ends under Q with S, after at most c draws. -/
namespace PL
open PySem PySem.Spec L2
def GenM {α : Type} (S : (Addr → Option Nd) → Prop) (m : W α) (c : Nat) (Q : α → Prop) : Prop := ∀ (n : Nt) (P : α → Nt → Prop) (PX : Exc → Nt → Prop), n.n + c ≤ drawMax → S n.μ → (∀ a (k : Nt), Q a → n.n ≤ k.n → k.n ≤ n.n + c → S k.μ → P a k) → m n P PX
section
variable {α β J γ : Type} {S : (Addr → Option Nd) → Prop}
theorem Gen.m {m : W α} {c : Nat} {Q : α → Prop} (h : Gen m c Q) : GenM S m c Q := fun n P PX hn hs k => h n P PX hn fun a j q h1 h2 => k a ⟨j, n.μ⟩ q h1 h2 hs
theorem GenM.ret {a : α} {Q : α → Prop} (h : Q a) : GenM S (PL.ret a) 0 Q := (Gen.ret h).m
theorem GenM.bind {m : W α} {f : α → W β} {c d : Nat} {R : α → Prop} {Q : β → Prop} (h : GenM S m c R) (hf : ∀ a, R a → GenM S (f a) d Q) : GenM S (PL.bnd m f) (c + d) Q := fun n P PX hn hs k =>
  h n _ PX (by omega) hs fun a j q h1 h2 hs2 => hf a q j P PX (by omega) hs2 fun b i r h3 h4 hs3 => k b i r (Nat.le_trans h1 h3) (by omega) hs3
theorem GenM.le {m : W α} {c d : Nat} {Q R : α → Prop} (h : GenM S m c Q) (hc : c ≤ d) (hq : ∀ a, Q a → R a) : GenM S m d R := fun n P PX hn hs k => h n P PX (by omega) hs fun a j q h1 h2 h3 => k a j (hq a q) h1 (by omega) h3
theorem GenM.up {m : W α} {c d : Nat} {Q : α → Prop} (h : GenM S m c Q) (hc : c ≤ d) : GenM S m d Q := h.le hc fun _ q => q
theorem GenM.to {m : W α} {c : Nat} {Q R : α → Prop} (h : GenM S m c Q) (hq : ∀ a, Q a → R a) : GenM S m c R := h.le (Nat.le_refl _) hq
theorem GenM.dr {b : Int} {f : Int → W β} {c : Nat} {Q : β → Prop} (h0 : 0 < b) (h1 : b < 1000000000000000000000000000000000000000000000000000000000000) (k : ∀ r : Int, 0 ≤ r → r < b → GenM S (f r) c Q) : GenM S (PL.bnd (drw b) f) (1 + c) Q :=
  GenM.bind (R := fun r => 0 ≤ r ∧ r < b) (Gen.dr0 (c := 0) h0 h1 fun r a b => ⟨a, b⟩).m fun r ⟨a, b⟩ => k r a b
theorem GenM.cond {b : Bool} {m m' : W α} {c d : Nat} {Q : α → Prop} (h1 : b = true → GenM S m c Q) (h2 : b = false → GenM S m' d Q) : GenM S (if b = true then m else m') (Nat.max c d) Q := by
  cases b with
  | true => rw [if_pos rfl]; exact (h1 rfl).up (Nat.le_max_left _ _)
  | false => rw [if_neg (by decide)]; exact (h2 rfl).up (Nat.le_max_right _ _)
theorem GenM.forI {bd : α → J → W (Step J γ)} {k : J → W γ} {c d N : Nat} {I : Nat → J → Prop} {Q : γ → Prop} : ∀ {xs : List α} {i : Nat} {j : J}, xs.length + i ≤ N → (∀ x ∈ xs, ∀ i j, i < N → I i j → GenM S (bd x j) c fun o => ∃ j', o = .go j' ∧ I (i + 1) j') → (∀ i j, i ≤ N → I i j → GenM S (k j) d Q) → I i j → GenM S (forT bd k xs j) (c * xs.length + d) Q
  | [], i, j, hn, hb, hk, h0 => (hk i j (by simpa using hn) h0).up (by omega)
  | x :: xs, i, j, hn, hb, hk, h0 => by
    have hn2 : xs.length + 1 + i ≤ N := hn
    refine (GenM.bind (hb x List.mem_cons_self i j (by omega) h0) (d := c * xs.length + d) fun o ⟨j', e, h1⟩ => ?_).up (by rw [List.length_cons, Nat.mul_add]; omega)
    subst e
    exact GenM.forI (by omega) (fun y hy => hb y (List.mem_cons_of_mem _ hy)) hk h1
end
end PL

/-! The layer: xs += e with lists, xs.insert(i, e). -/
namespace PL
open PySem PySem.Spec L2 PyProof.Rows
section
variable {G : PenK} {X : Cx} {Wx : WX} {γ : Type} {En : Enz γ} {ρ : Env} {rest : List Stmt} {m : W γ}
end
end PL

/-! Plain laws with one list of two numbers that is changed: GenR a m c x y Q tells what m makes of them. -/
namespace PL
open PySem PySem.Spec L2
def GenR {α : Type} (a : Addr) (m : W α) (c : Nat) (x y : Int) (Q : α → Int → Int → Prop) : Prop := ∀ (n : Nt) (P : α → Nt → Prop) (PX : Exc → Nt → Prop), n.n + c ≤ drawMax → n.μ a = some (.lst [.d (.int x), .d (.int y)]) → (∀ v (k : Nt) x' y', Q v x' y' → n.n ≤ k.n → k.n ≤ n.n + c → k.μ a = some (.lst [.d (.int x'), .d (.int y')]) → P v k) → m n P PX
section
variable {α β J γ : Type} {a : Addr} {x y : Int}
theorem Gen.r {m : W α} {c : Nat} {Q : α → Prop} (h : Gen m c Q) : GenR a m c x y (fun v x' y' => Q v ∧ x' = x ∧ y' = y) := fun n P PX hn hs k => h n P PX hn fun v j q h1 h2 => k v ⟨j, n.μ⟩ x y ⟨q, rfl, rfl⟩ h1 h2 hs
theorem GenR.ret {v : α} {Q : α → Int → Int → Prop} (h : Q v x y) : GenR a (PL.ret v) 0 x y Q := fun n P PX _ hs k => k v n x y h (Nat.le_refl _) (Nat.le_refl _) hs
theorem GenR.bind {m : W α} {f : α → W β} {c d : Nat} {R : α → Int → Int → Prop} {Q : β → Int → Int → Prop} (h : GenR a m c x y R) (hf : ∀ v x' y', R v x' y' → GenR a (f v) d x' y' Q) : GenR a (PL.bnd m f) (c + d) x y Q := fun n P PX hn hs k =>
  h n _ PX (by omega) hs fun v j x' y' q h1 h2 hs2 => hf v x' y' q j P PX (by omega) hs2 fun b i x2 y2 r h3 h4 hs3 => k b i x2 y2 r (Nat.le_trans h1 h3) (by omega) hs3
theorem GenR.le {m : W α} {c d : Nat} {Q R : α → Int → Int → Prop} (h : GenR a m c x y Q) (hc : c ≤ d) (hq : ∀ v x' y', Q v x' y' → R v x' y') : GenR a m d x y R := fun n P PX hn hs k => h n P PX (by omega) hs fun v j x' y' q h1 h2 h3 => k v j x' y' (hq v x' y' q) h1 (by omega) h3
theorem GenR.up {m : W α} {c d : Nat} {Q : α → Int → Int → Prop} (h : GenR a m c x y Q) (hc : c ≤ d) : GenR a m d x y Q := h.le hc fun _ _ _ q => q
theorem GenR.dr {b : Int} {f : Int → W β} {c : Nat} {Q : β → Int → Int → Prop} (h0 : 0 < b) (h1 : b < 1000000000000000000000000000000000000000000000000000000000000) (k : ∀ r : Int, 0 ≤ r → r < b → GenR a (f r) c x y Q) : GenR a (PL.bnd (drw b) f) (1 + c) x y Q :=
  GenR.bind (Gen.r (Q := fun r => 0 ≤ r ∧ r < b) (Gen.dr0 (c := 0) h0 h1 fun r p q => ⟨p, q⟩)) fun r x' y' ⟨⟨p, q⟩, e1, e2⟩ => by
    subst e1 e2
    exact k r p q
theorem GenR.cond {b : Bool} {m m' : W α} {c d : Nat} {Q : α → Int → Int → Prop} (h1 : b = true → GenR a m c x y Q) (h2 : b = false → GenR a m' d x y Q) : GenR a (if b = true then m else m') (Nat.max c d) x y Q := by
  cases b with
  | true => rw [if_pos rfl]; exact (h1 rfl).up (Nat.le_max_left _ _)
  | false => rw [if_neg (by decide)]; exact (h2 rfl).up (Nat.le_max_right _ _)
theorem GenR.forI {bd : α → J → W (Step J γ)} {k : J → W γ} {c d N : Nat} {I : Nat → J → Int → Int → Prop} {Q : γ → Int → Int → Prop} : ∀ {xs : List α} {i : Nat} {j : J} {x y : Int}, xs.length + i ≤ N → (∀ e ∈ xs, ∀ i j x y, i < N → I i j x y → GenR a (bd e j) c x y fun o x' y' => ∃ j', o = .go j' ∧ I (i + 1) j' x' y') → (∀ i j x y, i ≤ N → I i j x y → GenR a (k j) d x y Q) → I i j x y → GenR a (forT bd k xs j) (c * xs.length + d) x y Q
  | [], i, j, x, y, hn, hb, hk, h0 => (hk i j x y (by simpa using hn) h0).up (by omega)
  | e :: xs, i, j, x, y, hn, hb, hk, h0 => by
    have hn2 : xs.length + 1 + i ≤ N := hn
    refine (GenR.bind (hb e List.mem_cons_self i j x y (by omega) h0) (d := c * xs.length + d) fun o x' y' ⟨j', eo, h1⟩ => ?_).up (by rw [List.length_cons, Nat.mul_add]; omega)
    subst eo
    exact GenR.forI (by omega) (fun z hz => hb z (List.mem_cons_of_mem _ hz)) hk h1
theorem GenR.ix0 : GenR a (ixOb a (.int 0)) 0 x y (fun d x' y' => d = .int x ∧ x' = x ∧ y' = y) := fun n P PX _ hs k =>
  ⟨[.d (.int x), .d (.int y)], 0, .int x, by unfold lstM; rw [hs], rfl, atI_nat (j := 0) rfl, k _ n x y ⟨rfl, rfl, rfl⟩ (Nat.le_refl _) (Nat.le_refl _) hs⟩
theorem GenR.ix1 : GenR a (ixOb a (.int 1)) 0 x y (fun d x' y' => d = .int y ∧ x' = x ∧ y' = y) := fun n P PX _ hs k =>
  ⟨[.d (.int x), .d (.int y)], 1, .int y, by unfold lstM; rw [hs], rfl, atI_nat (j := 1) rfl, k _ n x y ⟨rfl, rfl, rfl⟩ (Nat.le_refl _) (Nat.le_refl _) hs⟩
theorem GenR.mk {f : Addr → W α} {c : Nat} {Q : α → Prop} (h : ∀ a, GenR a (f a) c x y (fun v _ _ => Q v)) : GenM (fun _ => True) (bnd (mkL [.int x, .int y]) f) c Q := fun n P PX hn _ k =>
  ⟨rfl, fun a _ => h a ⟨n.n, setM n.μ a (.lst [.d (.int x), .d (.int y)])⟩ P PX hn setM_same fun v j _ _ q h1 h2 _ => k v j q h1 h2 trivial⟩
end
end PL

/-! Instances of own classes that stay as they were made: made, read, called; methods are defs over data. -/
namespace PL
open PySem PySem.Spec L2 PyProof.Rows
section
variable {G : PenK} {X : Cx} {Wx : WX}
/-- d.f -/
def fldD (f : Str) (d : D) : W D := match d with
  | .ins _ g x => if g = f then ret x else stuck
  | _ => stuck
theorem e_fld {e : Expr} {f : Str} {pos : Pos} {g : Env → W D} (h : E G X Wx e g) (hb : attributeBase e f X.env (eval e X.env) = eval e X.env := by rfl) : E G X Wx (.Attribute e f pos) (fun ρ => bnd (g ρ) (fldD f)) :=
  weakE (pe_fld h hb) fun σ H Q ⟨c, ρ, n, P, PX, I, q, hg, hx⟩ => tE.bnd I q hx fun d k u S' H' p g I' hx' r => by
    cases d with
    | ins cn f' x =>
      obtain ⟨a, C, dx, w, rfl, i, ⟨hs, ha⟩, rx⟩ := r
      have p2 : (if f' = f then ret x else stuck : W D) k P PX := p
      split at p2
      · rename_i e; subst e
        exact ⟨a, C, dx, [(f', w)], w, rfl, ha, i.cls, i.no, by simp [List.lookup], (hg.grow g).at p2 I' rx⟩
      · exact p2.elim
    | _ => exact p.elim

/-! ### how a method is known -/
structure KnM (G : PenK) (X : Cx) (k : Nat) (f : Addr) (fd : FuncData) (ps : List Str) (m : List SV → W D) : Prop where
  F : FnG X.prog X.w X.K X.mg X.base k f fd ps (spM G X.K X.mg ps.length m)
  bd : Binds X.K fd ps []
/-- an instance of this class -/
def insIs (c f : Str) (d : D) (m : W D) : W D := match d with
  | .ins c' f' _ => if c' = c ∧ f' = f then m else stuck
  | _ => stuck
theorem insIs_inv {c f : Str} {d : D} {m : W D} {n : Nt} {P : D → Nt → Prop} {PX : Exc → Nt → Prop} (h : insIs c f d m n P PX) : ∃ x, d = .ins c f x ∧ m n P PX := by
  unfold insIs at h
  split at h
  · split at h
    · rename_i c' f' x hh
      obtain ⟨rfl, rfl⟩ := hh
      exact ⟨x, rfl, h⟩
    · exact h.elim
  · exact h.elim
theorem InsC.same {K : PySem.W.Frag} {c f : Str} {C C' : Addr} (h : InsC K c f C) (h' : InsC K c f C') : C' = C := by
  have := h'.at_.symm.trans h.at_
  cases this
  rfl
/-- an exception reaches nothing behind a property -/
theorem quiet_x {c : C} {σ : L2.St} {ρ : Env} {H : Hp} : OKx G X WF c σ ρ H (fun _ _ => False) := fun _ _ _ _ _ _ p _ _ _ => p.elim
theorem getprop_G {k : Nat} {C p g a dx : Addr} {fs : List (Str × V)} {f : Str} {fd : FuncData} {ps : List Str} {sp : Sp} {pins : List (Addr × Obj)} {σ : L2.St} {H : Hp} {s : Shared} {Q : VK} {b : Bool} {E' : Value → Shared → Prop} (I : Inv X pins σ H s) (ea : H a = some (.ins C dx fs)) (c : Cls X.K C) (hp : PropOf X.K C f p g)
    (F : FnG X.prog X.w X.K X.mg X.base k g fd ps sp) (hgd : X.A.guards = some []) (hr : Room (k + 1) X.A) (hb : Binds X.K fd ps []) (h : sp [.ref a] H Q (fun _ _ _ => False)) :
    wpAny (model X.prog X.w) X.A (getAttr (.ref a) f b) (EP X pins σ Q) E' s := by
  obtain ⟨mA, O, _, _, _, _⟩ := ins_get I.hok ea
  obtain ⟨od, J, _⟩ := O.look
  obtain ⟨rest, hrec⟩ := hp.rec_
  have I1 := I.tok (s.toks + 1)
  have hl : ([Value.ref a] ++ []).length = ps.length := by
    rw [← F.len _ _ _ _ h]
    rfl
  have hc : (PySem.W.clsIn X.K C).isSome = true := by
    obtain ⟨cd, hc, _⟩ := PySem.W.any_some c.hd
    rw [hc]
    rfl
  refine PySem.W.get_bind I.kIn J (PySem.W.plainGet_of (c.get f)).1 (PySem.W.findObj_data hc hp.at_ hp.get hp.tak) (PySem.W.plainGet_of (c.get f)).2 (wpAny_call (PySem.W.prop_get (s := { s with toks := s.toks + 1 }) I.kIn hrec ?_))
  refine codeAny_mono (F.run X.A.in1 X.stack { s with toks := s.toks + 1 } H ⟨[.ref a], []⟩ [.ref a] [.ref a] Q (fun _ _ _ => False) hgd hr.in1 I1.env0.in1 (hb _ [.ref a] I1.kIn hl) (.cons rfl .nil) h) fun r s' hq => ?_
  cases r with
  | error er =>
    obtain ⟨_, _, _, _, _, _, _, _, _, _, _, _, hf⟩ := hq
    exact hf.elim
  | ok fl =>
    cases fl with
    | ret u =>
      obtain ⟨v, H', I3, rv, q3⟩ := I1.after hq
      show wpAny _ _ (handedOut u) _ _ _
      rw [PySem.W.handedOut_of (handed_of rv)]
      exact wpAny_pure ⟨v, H', I3, rv, q3⟩
    | next => exact False.elim hq
    | brk => exact False.elim hq
    | cont => exact False.elim hq
/-- e.p, a property -/
theorem e_prop {k : Nat} {C p g : Addr} {cn f pf : Str} {fd : FuncData} {ps : List Str} {m : List SV → W D} {e : Expr} {pos : Pos} {ge : Env → W D} (ic : InsC X.K cn f C) (hp : PropOf X.K C pf p g) (kn : KnM G X k g fd ps m) (h1 : ps.length = 1) (hgd : X.A.guards = some []) (hr : Room (k + 1) X.A)
    (he : E G X Wx e ge) (hab : attributeBase e pf X.env (eval e X.env) = eval e X.env := by rfl) : E G X Wx (.Attribute e pf pos) (fun ρ => bnd (ge ρ) fun d => insIs cn f d (quiet (callM m [.d d]))) :=
  ⟨fun pins s σ H Q I ⟨c, ρ, n, P, PX, I', q, hg, hx⟩ => by
    refine attr_of hab (thn (he.run pins s σ H (fun v H' => ∃ a dx fs, v = .ref a ∧ H' a = some (.ins C dx fs) ∧ spM G X.K X.mg ps.length m [.ref a] H' Q (fun _ _ _ => False)) I ?_) fun u s1 ⟨x, H1, I1, rx, a, dx, fs, ex, ea, q⟩ => ?_)
    · refine tE.bnd I' q hx fun d k2 u S' H' p2 g2 I2 hx' r => ?_
      obtain ⟨x, rfl, p3⟩ := insIs_inv p2
      obtain ⟨a, C', dx, w, rfl, i, ⟨hs, ha⟩, rw_⟩ := id r
      obtain rfl := ic.same i
      exact ⟨a, dx, _, rfl, ha, call_core (Wx := WF) (args := [.d (.ins cn f x)]) I2 h1.symm ⟨_, _, rfl, r, rfl⟩ p3 (hg.grow g2) quiet_x⟩
    · subst ex
      obtain rfl : u = Value.ref a := rx
      exact getprop_G I1 ea ic.cls hp kn.F hgd hr kn.bd q⟩
theorem callM_o {m m' : List SV → W D} {C : Addr} (h : ∀ args, m (.o C :: args) = m' args) (args : List SV) : callM m (.o C :: args) = callM m' args := by
  funext n P PX
  unfold callM
  rw [h args]
  rfl
/-- C.m(x, ..), m a classmethod -/
theorem e_cmeth {k : Nat} {C p g : Addr} {mc : Value} {x mn : Str} {fd : FuncData} {ps : List Str} {m m' : List SV → W D} {e : Expr} {es : List Expr} {px apos pos : Pos} {gs : Env → W (List SV)} {pl : Sem Bool} (r : ClX.CRead X.K C mc) (cm : ClX.CMet X.K C mc mn p g) (kn : KnM G X k g fd ps m) (hm' : ∀ args, m (.o C :: args) = m' args) (hps : 0 < ps.length) (hm : X.mg x = some (.ref C)) (hgd : X.A.guards = some []) (hr : Room k X.A) (tk : Takes X Wx)
    (ha : AV G X Wx (e :: es) gs) (hg : Gl X x := by rfl) (hdb : (x == ("__debug__" : Str)) = false := by decide)
    (hst : starEach (e :: es) X.env = (false, eval e X.env) :: starEach es X.env := by rfl) (hpl : (backTo pos (starEach es X.env)).any (·.1) = false := by rfl)
    (ht : eval (.Call (.Attribute (.Name x px) mn apos) (e :: es) [] pos) X.env = (do
      let ov ← eval (.Name x px) X.env
      standAt apos.atName
      let (f, first) ← holding [ov] (getMethod ov mn pl)
      callWith pos f first (backTo pos (starEach (e :: es) X.env)) (backToKw pos (keywordEach [] X.env))) := by rfl) :
    E G X Wx (.Call (.Attribute (.Name x px) mn apos) (e :: es) [] pos) (fun ρ => bnd (gs ρ) fun args => arity (ps.length - 1) args (callM m' args)) :=
  ⟨fun pins s σ H Q I ⟨c, ρ, n, P, PX, I', q, hg2, hx⟩ => by
    refine PySem.W.methodCall_KW (pl := pl) (thn ((pe_glob (v := .ref C) hg hm rfl hdb).run pins s σ H (fun v H' => v = .ref C ∧ H' = H) I ⟨rfl, rfl⟩) fun u s1 ⟨y, H1, I1, rx, ex, eH⟩ => ?_) ht
    subst ex eH
    obtain rfl : u = Value.ref C := rx
    refine ClX.getmethcm_ok I1 r cm fun s2 I2 => ?_
    refine ClX.callwith_cm I2 (ClX.base_none I1 (Nat.le_refl _)) cm.fi (thn (ha.run pos _ s2 σ H1 (fun vs H2 => vs.length + 1 = ps.length ∧ spM G X.K X.mg ps.length m (.ref C :: vs) H2 Q (WE Wx σ)) I2 ⟨c, ρ, n, fun args k => arity (ps.length - 1) args (callM m' args) k P PX, PX, I', q, fun args k vs S2 H2 p4 g3 I3 r3 => ?_, hx⟩) fun us s3 ⟨vs, H2, I3, rv, hl, q2⟩ => ⟨⟨ClX.pin_at I3, I3.kIn⟩, ?_⟩) hst hpl
    · obtain ⟨hl, p5⟩ := arity_inv p4
      rw [← callM_o hm'] at p5
      have hl2 : (SV.o C :: args).length = ps.length := by rw [List.length_cons, hl]; omega
      exact ⟨by rw [r3.len]; exact hl2, call_core I3 hl2 ⟨_, _, rfl, rfl, r3⟩ p5 (hg2.grow g3) (hx.grow g3)⟩
    · have hb1 := kn.bd s3 (.ref C :: us) I3.kIn (by rw [List.append_nil, List.length_cons, ← rv.length]; exact hl)
      rw [List.append_nil] at hb1
      have z : wpAny (model X.prog X.w) X.A (call (.ref s1.heap.objs.size) us) (EP X ((s1.heap.objs.size, PySem.W.methodObj (.ref g) (.ref C)) :: pins) σ Q) X.xe s3 :=
        wpAny_call (PySem.W.method_call (ClX.pin_at I3) (codeAny_mono (run_G kn.F hgd hr tk I3 hb1 (show Vals (V.ref C :: vs) (Value.ref C :: us) from .cons rfl rv) q2) fun r s' hq => by
          cases r with
          | error e => exact hq
          | ok fl => cases fl <;> exact hq))
      exact thn z fun _ _ y => ClX.unpinE y⟩
end
/-! ### an instance is made -/
/-- what an __init__ promises: self gets its one field -/
def spI (G : PenK) (K : PySem.W.Frag) (mg : Str → Option Value) (ps : Nat) (f : Str) (m : List SV → W D) : Sp := fun vs H Q E =>
  ∃ (x C dx : Addr) (ws : List V) (S : Addr → Prop) (pen : Option (Addr × Addr)) (args : List SV) (n : Nt) (P : D → Nt → Prop) (PX : Exc → Nt → Prop),
    vs = .ref x :: ws ∧ H x = some (.ins C dx []) ∧ Cls K C ∧ NoAttr K C f ∧ n.μ x = none ∧
    args.length = ps ∧ (∀ a, S a → H a ≠ none) ∧ (∀ p, pen = some p → G.inv H p.1 p.2 n.n ∧ ¬ S p.1 ∧ ¬ S p.2) ∧ (∀ q ∈ G.tab, ¬ S q.1 ∧ TabI S H q.1 q.2) ∧ MuOk G K S H pen n ∧ ArgsOk K S H pen args ws ∧ m args n P PX ∧
    (∀ d k v S' H', P d k → After G K S S' pen n H H' k → Rep K S' H' d v → Q .non (upd H' x (.ins C dx [(f, v)]))) ∧ ∀ x k S' H' cls dd, PX x k → After G K S S' pen n H H' k → RepX K mg S' H' x cls dd → E cls dd H'
section
variable {G : PenK} {P : Program} {w : World} {K : PySem.W.Frag} {mg : Str → Option Value} {base : Heap}
/-- a def whose parameters may have defaults -/
structure FunI (K : PySem.W.Frag) (x qual : Str) (st : Stmt) (f : Addr) (fd : FuncData) : Prop where
  ex : ∃ (oc : Value) (od : Option Addr) (dV kV doc pm : Value) (an : Option Addr) (cdv ct : Value) (osl : Array (Option Value)),
    fd = PySem.W.fnOf x qual (defArgs st) (defBody st) (defScope st) dV kV doc pm an cdv ct ∧ K.lookup f = some ⟨oc, od, .func fd, osl⟩ ∧ PySem.W.codeIn K cdv qual = true
theorem FunI.mk' {x qual : Str} {st : Stmt} {f : Addr} {oc : Value} {od an : Option Addr} {osl : Array (Option Value)} {dV kV doc pm cdv ct : Value} (l : K.lookup f = some ⟨oc, od, .func (PySem.W.fnOf x qual (defArgs st) (defBody st) (defScope st) dV kV doc pm an cdv ct), osl⟩)
    (c : PySem.W.codeIn K cdv qual = true) : FunI K x qual st f (PySem.W.fnOf x qual (defArgs st) (defBody st) (defScope st) dV kV doc pm an cdv ct) := ⟨oc, od, dV, kV, doc, pm, an, cdv, ct, osl, rfl, l, c⟩
/-- every parameter is written, though there are defaults -/
theorem binds_dfl {fd : FuncData} {ps : List Str} {T : Addr} {o : Obj} {its : Array Value} {n : Nat} (lT : K.lookup T = some o) (oT : o.data = .seq its n)
    (h : ∀ us : List Value, us.length = ps.length → ∃ k, bindArgs fd ⟨us, []⟩ = seqItems? (.ref T) >>= k ∧ k (some its) = pure (ps.zip us)) : Binds K fd ps [] := fun s us X hl => by
  rw [List.append_nil] at hl ⊢
  obtain ⟨k, e1, e2⟩ := h us hl
  refine BindsTo.of_looks fun M => ?_
  rw [e1]
  exact looks_items X lT oT (.of_pure e2)
theorem FnG.of_bodyI {k : Nat} {f : Addr} {fd : FuncData} {x qual : Str} {st : Stmt} {N ps : List Str} {sp : Sp} (F : FunI K x qual st f fd) (S : FnScope N ps (defScope st))
    (len : ∀ vs H Q E, sp vs H Q E → vs.length = ps.length)
    (body : ∀ (cdv : Value) (A : Around) (outer : List PySem.Env) (s : Shared) (H : Hp) (vs : List V) (Q : VK) (E : XK), A.guards = some [] → Room k (A.deeper (envOfC qual (defScope st) s.heap.objs.size f cdv)) → sp vs H Q E →
      ∃ t, PSs (cxOf (L2.CX P w) P w K mg base N qual (defScope st) f cdv A outer s H E) (defBody st) t ∧ t { nx := fun _ H' => Q .non H', rt := Q } (L2.start N vs) H) : FnG P w K mg base (k + 1) f fd ps sp := by
  obtain ⟨oc, od, dV, kV, doc, pm, an, cdv, ct, osl, rfl, lk, hcd⟩ := F.ex
  refine ⟨len, fun A outer s H args us vs Q E hg hr e0 hb r hsp => ?_⟩
  have hk : K.In s.heap := e0.mod.kin.keeps fun b o e => (e0.bs b o e).1
  have hlim : s.heap.NoLimit := e0.mod.nolimit.keeps fun b o e => (e0.bs b o e).1
  have loc : ∀ y ∈ ps.zip us, (defScope st).names.lookup y.1 = some .local ∨ ((defScope st).names.lookup y.1 = some .cell ∧ ((cellsFrom (s.heap.objs.size + 1) (defScope st).names []).lookup y.1).isSome = true) := by
    rintro ⟨y, v⟩ hy
    cases S.par y (List.of_mem_zip hy).1 with
    | inl q => exact Or.inl q
    | inr q => exact Or.inr ⟨q, PySem.W.cellsFrom_some _ _ _ (Or.inl q)⟩
  refine codeAny_call_function hr.depth (hk _ _ lk) rfl S.co S.gen rfl (PySem.W.codeRec_of hk hcd) (hb _ _ _ _ (wpAny_newFunctionEnv_cells S.kind loc ?_))
  rintro env rfl s1 hin
  refine ⟨hlim.keeps hin.toInCall.keep, codeAny_func ?_⟩
  obtain ⟨t, ht, hq⟩ := body cdv A outer s H vs Q E hg (hr.deeper _) hsp
  have J := inv_start (CX := L2.CX P w) (E := E) (mg := mg) (base := base) S hr.hd e0 (len _ _ _ _ hsp) r hin
  refine wpAny_mono (ht.run [] s1 (L2.start N vs) H _ J hq) (fun fl s' hs => ?_) fun _ _ z => z
  cases fl with
  | ret u => obtain ⟨v, σ', H', J', rv, q⟩ := hs; exact ⟨v, H', J'.os, J'.bare, J'.base, J'.hok, rv, q⟩
  | next => obtain ⟨σ', H', J', q⟩ := hs; exact ⟨.non, H', J'.os, J'.bare, J'.base, J'.hok, rfl, q⟩
  | brk => obtain ⟨_, _, _, q⟩ := hs; exact q.elim
  | cont => obtain ⟨_, _, _, q⟩ := hs; exact q.elim
/-- def __init__(self, ..): a statement; self.f = e -/
theorem fn_init {k : Nat} {fI : Addr} {fd : FuncData} {x qual sn f : Str} {st s1 : Stmt} {e : Expr} {p1 p2 p3 : Pos} {N ps : List Str} {m : List SV → W D} {Sh : List SV → Prop} (F : FunI K x qual st fI fd) (S : FnScope N (sn :: ps) (defScope st)) (hn : ps.length + 1 ≤ N.length) (hN : N[0]? = some sn)
    (hb : defBody st = [s1, .Assign [.Attribute (.Name sn p1) f p2] e p3]) (hd : (sn == ("__debug__" : Str)) = false) (hcd : (sn == ("__classdict__" : Str)) = false) (hm : ∀ args n P PX, m args n P PX → Sh args)
    (body : ∀ args, Sh args → ∀ (a : Addr) (cdv : Value) (A : Around) (outer : List PySem.Env) (s : Shared) (H : Hp) (E : XK) (Wx : WX), A.guards = some [] → Room k (A.deeper (envOfC qual (defScope st) s.heap.objs.size fI cdv)) → Takes (cxOf (L2.CX P w) P w K mg base N qual (defScope st) fI cdv A outer s H E) Wx →
      ∃ (g1 : Env → W Out) (ge : Env → W D) (m1 : W Unit) (m2 : W D), St1 G (cxOf (L2.CX P w) P w K mg base N qual (defScope st) fI cdv A outer s H E) Wx s1 g1 ∧ PL.E G (cxOf (L2.CX P w) P w K mg base N qual (defScope st) fI cdv A outer s H E) Wx e ge ∧ swapsWith e (some (.Attribute (.Name sn p1) f p2)) p3.line (cxOf (L2.CX P w) P w K mg base N qual (defScope st) fI cdv A outer s H E).env = pure false ∧
        g1 (.o a :: args ++ List.replicate (N.length - (args.length + 1)) .un) = bnd m1 (fun _ => ret (.nx (.o a :: args ++ List.replicate (N.length - (args.length + 1)) .un))) ∧ ge (.o a :: args ++ List.replicate (N.length - (args.length + 1)) .un) = m2 ∧ m args = bnd m1 fun _ => m2) :
    FnG P w K mg base (k + 1) fI fd (sn :: ps) (spI G K mg ps.length f m) := by
  refine FnG.of_bodyI F S (fun vs H Q E ⟨x, C, dx, ws, S, pen, args, n, P, PX, ev, _, _, _, _, hl, _, _, _, _, r, _⟩ => by rw [ev, List.length_cons, r.len, hl]; rfl) fun cdv A outer s H vs Q E hg hr ⟨x, C, dx, ws, S0, pen, args, n, P0, PX, ev, hx0, hC, hno, hmx, hl, dom, hp, ht, hmu, r, q, hq, hxx⟩ => ?_
  obtain ⟨g1, ge, m1, m2, b1, b2, b3, h1, h2, h3⟩ := body args (hm args n P0 PX q) x cdv A outer s H E (fun cls d _ H => E cls d H) hg hr (L2.takes_of rfl rfl rfl rfl)
  rw [h3] at q
  rw [hb]
  refine ⟨_, pss_cons b1 (pss_one (ps_fld (pe_var (i := 0) hN ((S.par sn (List.Mem.head _)).elim (fun z => .inl z) (fun z => .inr (.inl z))) hd hcd) b2 b3)), ?_⟩
  subst ev
  have hS := SI.entry (N := N) (args := .o x :: args) (vs := .ref x :: ws) (by rw [List.length_cons, hl]; exact hn) dom hp ht hmu ⟨_, _, rfl, rfl, r⟩
  have hfx : ∀ {S' : Addr → Prop} {H' : Hp} {k : Nt}, After G K S0 S' pen n H H' k → H' x = some (.ins C dx []) := fun h => h.fr x _ hx0 (fun p e => ⟨fun z => (by obtain ⟨⟨xs, e1⟩, _⟩ := G.isL (hp p e).1; rw [← z, hx0] at e1; cases e1), fun z => (by obtain ⟨_, xs, e1⟩ := G.isL (hp p e).1; rw [← z, hx0] at e1; cases e1)⟩) (fun q hq z => by obtain ⟨ps, e1, _⟩ := (ht q hq).2; rw [← z, hx0] at e1; cases e1) hmx
  refine ⟨_, _, n, fun o k => (match o with | .nx ρ => (grd (ρ = .o x :: args ++ List.replicate (N.length - (args.length + 1)) SV.un) m2) | _ => stuck : W D) k P0 PX, PX, hS, ?_, ⟨fun ρ' k σ' S' H' p g I => ?_, fun d k v σ' ρ' S' H' p g I r => p.elim, fun ρ' k σ' S' H' p g I => p.elim, fun ρ' k σ' S' H' p g I => p.elim⟩, fun y k σ' ρ' S' H' cls dd p g I r => hxx y k S' H' cls dd p (SI.after g I) r⟩
  · rw [show (SV.o x :: args ++ List.replicate (N.length - (SV.o x :: args).length) SV.un) = SV.o x :: args ++ List.replicate (N.length - (args.length + 1)) SV.un from rfl, h1]
    refine cast (congrArg (fun z => m1 n z PX) ?_) q
    funext a j
    exact propext ⟨fun z => ⟨rfl, z⟩, fun z => z.2⟩
  · obtain ⟨e1, p⟩ := p
    · subst e1
      rw [← h2] at p
      refine ⟨_, _, k, P0, PX, I, p, fun d k2 v S2 H2 p2 g2 I2 r2 => ?_, fun y k2 S2 H2 cls dd p2 g2 I2 r2 => hxx y k2 S2 H2 cls dd p2 (SI.after (g.trans g2) I2) r2⟩
      have af : After G K S0 S2 pen n H H2 k2 := SI.after (g.trans g2) I2
      refine ⟨.ref x, slot_some (I2.slots 0 _ rfl), x, C, dx, [], rfl, hfx af, hC, hno, by decide, ?_⟩
      exact hq d k2 v S2 H2 p2 af r2
end
section
variable {G : PenK} {X : Cx} {Wx : WX}
/-- how a class is known whose instances are made -/
structure KnI (G : PenK) (X : Cx) (k : Nat) (C fI : Addr) (fd : FuncData) (sn : Str) (ps : List Str) (cn f : Str) (m : List SV → W D) : Prop where
  F : FnG X.prog X.w X.K X.mg X.base k fI fd (sn :: ps) (spI G X.K X.mg ps.length f m)
  M : Mk X.K C fI
  ic : InsC X.K cn f C
  bd : Binds X.K fd (sn :: ps) []
theorem make_guards {A : Around} {C : Addr} {us : List Value} {kw : List (Str × Value)} : (A.under (.builtin "type.__call__" ⟨.ref C :: us, kw⟩)).guards = A.guards := by
  first | rfl | simp [Around.under, Code.weight, Code.isCreation, Code.isGuard, Code.isCaller, Code.frames, Code.isFrame, guardIds]
theorem run_makeG {k : Nat} {C fI : Addr} {fd : FuncData} {sn : Str} {ps : List Str} {cn f : Str} {m : List SV → W D} {pins : List (Addr × Obj)} {σ : L2.St} {H : Hp} {s : Shared} {Q : VK} {us : List Value} {vs : List V} (kn : KnI G X k C fI fd sn ps cn f m) (hgd : X.A.guards = some []) (hr : Room (k + 1) X.A) (tk : Takes X Wx)
    (I : Inv X pins σ H s) (r : Vals vs us)
    (h : ∀ x dx, H x = none → H dx = none → dx ≠ x → spI G X.K X.mg ps.length f m (.ref x :: vs) (upd (upd H dx (.own x)) x (.ins C dx [])) (fun v H2 => v = .non ∧ Q (.ref x) H2) (WE Wx σ)) :
    wpAny (model X.prog X.w) X.A (call (.ref C) us) (EP X pins σ Q) X.xe s := by
  have hq := h (s.heap.objs.size + 1) s.heap.objs.size (I.hok.fresh (Nat.le_succ _)) (I.hok.fresh (Nat.le_refl _)) (Nat.ne_of_lt (Nat.lt_succ_self _))
  have I2 := Inv.made (C := C) I
  have r2 : Vals (V.ref (s.heap.objs.size + 1) :: vs) (Value.ref (s.heap.objs.size + 1) :: us) := .cons rfl r
  have hl : (Value.ref (s.heap.objs.size + 1) :: us).length = (sn :: ps).length := by
    have e := r2.length
    rw [kn.F.len _ _ _ _ hq] at e
    exact e.symm
  have hb1 := kn.bd { s with heap := (s.heap.push PySem.W.emptyDict).push (PySem.W.instObj C s.heap.objs.size) } (Value.ref (s.heap.objs.size + 1) :: us) I2.kIn (by rw [List.append_nil]; exact hl)
  rw [List.append_nil] at hb1
  refine wpAny_call (make_map (f := fI) I.kIn kn.M.makes kn.M.init (beq_iff_eq.mp kn.M.fn) (codeAny_mono (kn.F.run _ X.stack _ _ ⟨Value.ref (s.heap.objs.size + 1) :: us, []⟩ (Value.ref (s.heap.objs.size + 1) :: us) _ _ (WE Wx σ) (make_guards.trans hgd) (hr.make C us [])
    (I2.env0.make C us []) hb1 r2 hq) fun r s' hq' => ?_))
  cases r with
  | error e => exact passAt tk σ pins _ _ e s' I2 hq'
  | ok fl =>
    cases fl with
    | ret u =>
      obtain ⟨v, H', I3, rv, ev, q3⟩ := I2.after hq'
      subst ev
      exact ⟨rv, ⟨V.ref (s.heap.objs.size + 1), H', I3, rfl, q3⟩⟩
    | next => exact False.elim hq'
    | brk => exact False.elim hq'
    | cont => exact False.elim hq'
theorem make_core {c : C} {σ : L2.St} {ρ : Env} {H : Hp} {n : Nt} {P : D → Nt → Prop} {PX : Exc → Nt → Prop} {Q : VK} {m : List SV → W D} {args : List SV} {vs : List V} {ps : Nat} {cn f : Str} {C : Addr} {x dx : Addr} (ic : InsC X.K cn f C) (I : SI G X.K c σ H ρ n) (hl : args.length = ps) (r : ArgsOk X.K c.S H c.pen args vs)
    (q : callM m args n (fun d k => P (.ins cn f d) k) PX) (hg : Gl1 G X c σ ρ H P Q) (hx : OKx G X Wx c σ ρ H PX) (xn : H x = none) (dn : H dx = none) (ne : dx ≠ x) :
    spI G X.K X.mg ps f m (.ref x :: vs) (upd (upd H dx (.own x)) x (.ins C dx [])) (fun v H2 => v = .non ∧ Q (.ref x) H2) (WE Wx σ) := by
  have nown : ∀ {a : Addr}, H a = none → ¬ ownS ρ σ a := fun h z => I.own_there z h
  obtain ⟨I1, g1⟩ := SI.put (D := dx) (o := .own x) I (I.freeOld dn) (I.freeS dn) (I.freeM dn) (nown dn)
  obtain ⟨I2, g2⟩ := SI.put (D := x) (o := .ins C dx []) I1 (I.freeOld xn) (I.freeS xn) (I.freeM xn) (nown xn)
  have g12 := g1.trans g2
  have fin : ∀ {pen : Option (Addr × Addr)} {k : Nt} {d : D} {v : V} {S' : Addr → Prop} {H' : Hp}, (pen = c.pen ∨ (pen = none ∧ k.n = n.n)) → P (.ins cn f d) k → After G X.K c.S S' pen n (upd (upd H dx (.own x)) x (.ins C dx [])) H' k → Rep X.K S' H' d v → Q (.ref x) (upd H' x (.ins C dx [(f, v)])) := by
    intro pen k d v S' H' hp p af rr
    have J := I2.called af hp
    have nS : ¬ S' x := fun z => (af.new x z).elim (I.freeS xn) fun z => by rw [upd_same] at z; cases z
    have nM : k.μ x = none := by
      cases e : k.μ x with
      | none => rfl
      | some nd => exact (af.mu x nd e).2.2.elim (fun z => absurd (I.freeM xn) z) fun z => by rw [upd_same] at z; cases z
    obtain ⟨J2, g3⟩ := SI.put (D := x) (o := .ins C dx [(f, v)]) J (I.freeOld xn) nS nM (nown xn)
    obtain ⟨J3, g4⟩ := J2.adopt (a := x) ⟨⟨nS, I.freeOld xn, nM⟩, fun i sv e ho es => nown xn ⟨i, sv, e, ho, es⟩⟩ (by rw [upd_same]; exact fun z => nomatch z)
    exact hg (.ins cn f d) k (.ref x) _ _ p (((g12.trans af.grow).trans g3).trans g4) J3 ⟨x, C, dx, v, rfl, ic, ⟨.inr rfl, upd_same⟩, Rep.grow (g3.trans g4) _ _ rr⟩
  unfold callM at q
  split at q
  · refine ⟨x, C, dx, vs, c.S, c.pen, args, n, _, PX, rfl, upd_same, ic.cls, ic.no, I.freeM xn, hl, I2.dom, fun p e => ?_, fun q e => ⟨(I2.tabN e).1, (I2.tab q e).2⟩, I2.muOk c.pen fun _ h => h, r.grow g12, q, fun d k v S' H' p h rr => ⟨rfl, fin (.inl rfl) p h rr⟩, fun y k S' H' cls dd p h rr => hx y k S' H' cls dd p (g12.trans h.grow) (I2.called h (.inl rfl)) rr⟩
    obtain ⟨h1, h2, h3, _⟩ := I2.pen p e
    exact ⟨h1, h2, h3⟩
  · rename_i hp
    have fix : ∀ {S' H' k}, After G X.K c.S S' none ⟨0, n.μ⟩ (upd (upd H dx (.own x)) x (.ins C dx [])) H' k → After G X.K c.S S' none n (upd (upd H dx (.own x)) x (.ins C dx [])) H' ⟨n.n, k.μ⟩ := fun h => ⟨h.grow, h.dom, h.new, h.fr, h.tab, (fun p e => nomatch e), h.mu, h.mu0, h.mz⟩
    exact ⟨x, C, dx, vs, c.S, none, args, ⟨0, n.μ⟩, _, _, rfl, upd_same, ic.cls, ic.no, I.freeM xn, hl, I2.dom, fun p e => (nomatch e), fun q e => ⟨(I2.tabN e).1, (I2.tab q e).2⟩, I2.muOk none (fun _ e => nomatch e), (r.grow g12).nopen (by simpa using hp), q, fun d k v S' H' p h rr => ⟨rfl, fin (k := ⟨n.n, k.μ⟩) (.inr ⟨rfl, rfl⟩) p (fix h) rr⟩, fun y k S' H' cls dd p h rr => hx y ⟨n.n, k.μ⟩ S' H' cls dd p (g12.trans h.grow) (I2.called (fix h) (.inr ⟨rfl, rfl⟩)) rr⟩
/-- C(x, ..) -/
theorem e_make {k : Nat} {C fI : Addr} {fd : FuncData} {x sn : Str} {ps : List Str} {cn f : Str} {m : List SV → W D} {p pos : Pos} {e : Expr} {es : List Expr} {gs : Env → W (List SV)} (kn : KnI G X k C fI fd sn ps cn f m) (hm : X.mg x = some (.ref C)) (hgd : X.A.guards = some []) (hr : Room (k + 1) X.A) (tk : Takes X Wx) (ha : AV G X Wx (e :: es) gs)
    (hg : Gl X x := by rfl) (hdb : (x == ("__debug__" : Str)) = false := by decide) (he : starEach (e :: es) X.env = (false, eval e X.env) :: starEach es X.env := by rfl) (hpl : (backTo pos (starEach es X.env)).any (·.1) = false := by rfl) :
    E G X Wx (.Call (.Name x p) (e :: es) [] pos) (fun ρ => bnd (gs ρ) fun args => arity ps.length args (bnd (callM m args) fun d => ret (.ins cn f d))) :=
  ⟨fun pins s σ H Q I ⟨c, ρ, k0, P, PX, I', q, hgl, hx⟩ => by
    refine wpAny_Call_Name_kw (ld_glob I hg hm ?_ hdb)
    refine PySem.W.callWith_K (h₀ := X.base) I.ok.mod.kin kn.M.kp (thn (ha.run pos pins s σ H (fun vs H' => ∀ x dx, H' x = none → H' dx = none → dx ≠ x → spI G X.K X.mg ps.length f m (.ref x :: vs) (upd (upd H' dx (.own x)) x (.ins C dx [])) (fun v H2 => v = .non ∧ Q (.ref x) H2) (WE Wx σ)) I ⟨c, ρ, k0, fun args k => arity ps.length args (bnd (callM m args) fun d => ret (D.ins cn f d)) k P PX, PX, I', q, fun args k vs S' H' p g I2 r =>
      fun x dx xn dn ne => make_core kn.ic I2 (arity_inv p).1 r (arity_inv p).2 (hgl.grow g) (hx.grow g) xn dn ne, hx⟩) fun us s1 ⟨vs, H1, I1, r1, q2⟩ => ⟨I1.kIn, run_makeG kn hgd hr tk I1 r1 q2⟩) he hpl⟩
/-- the class that a name holds -/
def objIs (C : Addr) (ρ : Env) (i : Nat) (m : W D) : W D := match ρ[i]? with
  | some (.o a) => if a = C then m else stuck
  | _ => stuck
theorem objIs_inv {C : Addr} {ρ : Env} {i : Nat} {m : W D} {n : Nt} {P : D → Nt → Prop} {PX : Exc → Nt → Prop} (h : objIs C ρ i m n P PX) : ρ[i]? = some (.o C) ∧ m n P PX := by
  unfold objIs at h
  cases e : ρ[i]? with
  | none => rw [e] at h; exact h.elim
  | some sv =>
    rw [e] at h
    cases sv with
    | o a =>
      have h : (if a = C then m else stuck : W D) n P PX := h
      by_cases z : a = C
      · rw [if_pos z] at h
        exact ⟨by rw [z], h⟩
      · rw [if_neg z] at h
        exact h.elim
    | _ => exact h.elim
theorem e_makeL {k : Nat} {C fI : Addr} {fd : FuncData} {x sn : Str} {ps : List Str} {cn f : Str} {m : List SV → W D} {p pos : Pos} {e : Expr} {es : List Expr} {gs : Env → W (List SV)} (i : Nat) (kn : KnI G X k C fI fd sn ps cn f m) (hgd : X.A.guards = some []) (hr : Room (k + 1) X.A) (tk : Takes X Wx) (ha : AV G X Wx (e :: es) gs)
    (hN : X.N[i]? = some x := by rfl) (hv : Vis X.env.scope x := by first | exact Or.inl rfl | exact Or.inr (Or.inl rfl) | exact Or.inr (Or.inr rfl)) (hdb : (x == ("__debug__" : Str)) = false := by decide)
    (hcd : (x == ("__classdict__" : Str)) = false := by decide) (he : starEach (e :: es) X.env = (false, eval e X.env) :: starEach es X.env := by rfl) (hpl : (backTo pos (starEach es X.env)).any (·.1) = false := by rfl) :
    E G X Wx (.Call (.Name x p) (e :: es) [] pos) (fun ρ => objIs C ρ i (bnd (gs ρ) fun args => arity ps.length args (bnd (callM m args) fun d => ret (.ins cn f d)))) :=
  ⟨fun pins s σ H Q I ⟨c, ρ, k0, P, PX, I', q, hgl, hx⟩ => by
    obtain ⟨e1, q⟩ := objIs_inv q
    refine wpAny_Call_Name_kw (thn ((pe_var (pos := p) hN hv hdb hcd).run pins s σ H (fun v H' => v = .ref C ∧ H' = H) I ⟨.ref C, slot_some (I'.slots i _ e1), rfl, rfl⟩) fun u s1 ⟨y, H1, I1, rx, ex, eH⟩ => ?_)
    subst ex eH
    obtain rfl : u = Value.ref C := rx
    refine PySem.W.callWith_K (h₀ := X.base) I1.ok.mod.kin kn.M.kp (thn (ha.run pos pins s1 σ H1 (fun vs H' => ∀ x dx, H' x = none → H' dx = none → dx ≠ x → spI G X.K X.mg ps.length f m (.ref x :: vs) (upd (upd H' dx (.own x)) x (.ins C dx [])) (fun v H2 => v = .non ∧ Q (.ref x) H2) (WE Wx σ)) I1 ⟨c, ρ, k0, fun args k => arity ps.length args (bnd (callM m args) fun d => ret (D.ins cn f d)) k P PX, PX, I', q, fun args k vs S' H' p g I2 r =>
      fun x dx xn dn ne => make_core kn.ic I2 (arity_inv p).1 r (arity_inv p).2 (hgl.grow g) (hx.grow g) xn dn ne, hx⟩) fun us s2 ⟨vs, H2, I2, r1, q2⟩ => ⟨I2.kIn, run_makeG kn hgd hr tk I2 r1 q2⟩) he hpl⟩
end
end PL

/-! What the kernel reads of a class; xs.pop(i) as a statement; xs = xs + ys; for i, (a, b) in enumerate(..). -/
namespace PL
open PySem PySem.Spec L2 PyProof.Rows
section
variable {K : PySem.W.Frag} {C p g fI : Addr} {c f mn : Str}
def insChk (K : PySem.W.Frag) (C : Addr) (f : Str) : Bool := PySem.W.plainGet K C Str.empty && PySem.W.hasDictIn K C && PySem.W.plainOver K C && (PySem.W.findIn K (.ref C) "__setattr__" == some (some (.builtin "object.__setattr__"))) && (PySem.W.findIn K (.ref C) f == some none) &&
  (PySem.W.findIn K (.ref C) "__class__" == some (some (.builtin "object.__class__"))) && (PySem.W.specialIn K (.builtin "object.__class__") "__get__" == some (some (.builtin "getset_descriptor.__get__"))) && (PySem.W.takesIn K (.builtin "object.__class__") == some true) && (PySem.W.mroIn K C (.type "object") == some true) &&
  (["int", "bool", "str", "tuple", "list", "dict"].all fun T => PySem.W.kitOne K (.ref C) (.type T) == some false)
theorem insC_of (at_ : PySem.W.nsIn K mainGlobals c = some (some (.ref C))) (h : insChk K C f = true) : InsC K c f C := by
  unfold insChk at h
  simp only [Bool.and_eq_true, beq_iff_eq, List.all_eq_true] at h
  obtain ⟨⟨⟨⟨⟨⟨⟨⟨⟨h1, h2⟩, h3⟩, h4⟩, h5⟩, h6⟩, h7⟩, h8⟩, h9⟩, h10⟩ := h
  exact ⟨at_, ⟨h1, h2, h3, h4⟩, h5, h6, h7, h8, h9, h10⟩
def mkChk (K : PySem.W.Frag) (C fI : Addr) : Bool := PySem.W.makesIn K C && PySem.W.isFn K (.ref fI) && PySem.W.keepIn K (.ref C)
theorem mk_of (i : PySem.W.findIn K (.ref C) "__init__" = some (some (.ref fI))) (h : mkChk K C fI = true) : Mk K C fI := by
  unfold mkChk at h
  simp only [Bool.and_eq_true] at h
  exact ⟨h.1.1, i, h.1.2, h.2⟩
def cmAt (K : PySem.W.Frag) (C : Addr) (mn : Str) (p : Addr) : Bool := match PySem.W.findCls K (.ref C) (.type "type") mn with
  | some (.get (.builtin s) (.ref a) .none (.ref c)) => s == "classmethod.__get__" && a == p && c == C
  | _ => false
theorem cmAt_ok (h : cmAt K C mn p = true) : PySem.W.findCls K (.ref C) (.type "type") mn = some (.get (.builtin "classmethod.__get__") (.ref p) .none (.ref C)) := by
  unfold cmAt at h
  split at h
  · rename_i e
    simp only [Bool.and_eq_true, beq_iff_eq] at h
    obtain ⟨⟨rfl, rfl⟩, rfl⟩ := h
    exact e
  · cases h
def cmChk (K : PySem.W.Frag) (C : Addr) (mn : Str) (p g : Addr) : Bool := PySem.W.readsIn K C (.type "type") && (PySem.W.specialIn K (.ref C) "__getattribute__" == some (some (.builtin "type.__getattribute__"))) && PySem.W.fnIn K g && cmAt K C mn p
theorem cread_of (h : cmChk K C mn p g = true) : ClX.CRead K C (.type "type") := by
  unfold cmChk at h
  simp only [Bool.and_eq_true, beq_iff_eq] at h
  exact ⟨h.1.1.1, h.1.1.2⟩
theorem cmet_of (rc : ∃ rest, PySem.W.recIn K p "classmethod" = some (.ref g :: rest)) (h : cmChk K C mn p g = true) : ClX.CMet K C (.type "type") mn p g := by
  unfold cmChk at h
  simp only [Bool.and_eq_true, beq_iff_eq] at h
  exact ⟨cmAt_ok h.2, rc, h.1.2⟩
def prChk (K : PySem.W.Frag) (p : Addr) : Bool := (PySem.W.specialIn K (.ref p) "__get__" == some (some (.builtin "property.__get__"))) && (PySem.W.takesIn K (.ref p) == some true)
theorem prop_of (at_ : PySem.W.findIn K (.ref C) f = some (some (.ref p))) (rc : ∃ rest, PySem.W.recIn K p "property" = some (.ref g :: rest)) (h : prChk K p = true) : PropOf K C f p g := by
  unfold prChk at h
  simp only [Bool.and_eq_true, beq_iff_eq] at h
  exact ⟨at_, h.1, h.2, rc⟩
def coChk (K : PySem.W.Frag) (g : Addr) : Bool := PySem.W.isFn K (.ref g) && PySem.W.fnIn K g
end
section
variable {G : PenK} {X : Cx} {Wx : WX}
/-- raise X() in a branch -/
theorem s_raise0 {x : Str} {p q pos : Pos} (k : ErrK0 X.K X.mg x) (hc : X.calm = true) (tk : Takes X Wx) (hx : Gl X x) (hdb : (x == ("__debug__" : Str)) = false := by decide) :
    St1 G X Wx (.Raise (some (.Call (.Name x p) [] [] q)) none pos) (fun _ => rse (x, [])) := by
  obtain ⟨B, newId, initId, bmB, C, F, h1, h2, h3, h4, hm⟩ := k
  exact weakS (ps_raise hc tk (pmk_own0 F h1 hm h2 (raises_own h3 h4) hx hdb)) fun Dn σ H ⟨c, ρ, n, P, PX, I, q, hgl, hxx⟩ => hxx (x, []) n σ ρ c.S H _ _ q .refl I ⟨C, hm, rfl, .inl ⟨rfl, rfl⟩⟩
/-- if t: raise X() -/
theorem if_raise {mt : W Bool} {e : Exc} {ρ : Env} : (bnd mt fun b => if b = true then (rse e : W Out) else ret (.nx ρ)) = bnd (bnd mt fun b => if b = true then rse e else ret ()) fun _ => ret (.nx ρ) := by
  rw [bnd_bnd]
  congr 1
  funext b
  cases b <;> rfl
theorem objIs_self {C : Addr} {ρ : Env} {m : W D} : objIs C (.o C :: ρ) 0 m = m := by
  show (if C = C then m else stuck) = m
  exact if_pos rfl
section
variable {γ : Type} {En : Enz γ} {ρ : Env} {rest : List Stmt}
end
end
section
variable {K : PySem.W.Frag}
theorem rec_mk {p g : Addr} {T : String} {od : Option Addr} {vs : Array Value} {sl : Array (Option Value)} {rest : List Value} (l : K.lookup p = some ⟨.type T, od, .fields vs, sl⟩) (h : vs.toList = .ref g :: rest) : ∃ rest, PySem.W.recIn K p T = some (.ref g :: rest) := by
  refine ⟨rest, ?_⟩
  unfold PySem.W.recIn
  rw [l]
  simp [h]
end
def unp4 : D → W (D × D × D × D)
  | .tup [a, b, c, d] => ret (a, b, c, d)
  | .lst [a, b, c, d] => ret (a, b, c, d)
  | _ => stuck
theorem setT_tp4 (i j l o : Nat) (x : D) (ρ : Env) : setT (.tp [.nm i, .nm j, .nm l, .nm o]) x ρ = bnd (unp4 x) fun p => ret ((((ρ.set i (.d p.1)).set j (.d p.2.1)).set l (.d p.2.2.1)).set o (.d p.2.2.2)) := by
  cases x with
  | tup xs =>
    match xs with
    | [] => funext n P X; exact propext ⟨fun h => (by have q := h.1; simp at q), fun h => False.elim h⟩
    | [a] => funext n P X; exact propext ⟨fun h => (by have q := h.1; simp at q), fun h => False.elim h⟩
    | [a, b] => funext n P X; exact propext ⟨fun h => (by have q := h.1; simp at q), fun h => False.elim h⟩
    | [a, b, c] => funext n P X; exact propext ⟨fun h => (by have q := h.1; simp at q), fun h => False.elim h⟩
    | [a, b, c, d] => exact grd_pos rfl _
    | a :: b :: c :: d :: e :: l => funext n P X; exact propext ⟨fun h => (by have q := h.1; simp at q), fun h => False.elim h⟩
  | lst xs =>
    match xs with
    | [] => funext n P X; exact propext ⟨fun h => (by have q := h.1; simp at q), fun h => False.elim h⟩
    | [a] => funext n P X; exact propext ⟨fun h => (by have q := h.1; simp at q), fun h => False.elim h⟩
    | [a, b] => funext n P X; exact propext ⟨fun h => (by have q := h.1; simp at q), fun h => False.elim h⟩
    | [a, b, c] => funext n P X; exact propext ⟨fun h => (by have q := h.1; simp at q), fun h => False.elim h⟩
    | [a, b, c, d] => exact grd_pos rfl _
    | a :: b :: c :: d :: e :: l => funext n P X; exact propext ⟨fun h => (by have q := h.1; simp at q), fun h => False.elim h⟩
  | non => rfl
  | bl _ => rfl
  | int _ => rfl
  | str _ => rfl
  | dic _ => rfl
  | ins _ _ _ => rfl
section
variable {G : PenK} {X : Cx} {Wx : WX} {γ : Type} {En : Enz γ} {ρ : Env} {rest : List Stmt}
theorem sg_asg4 {tg e : Expr} {pos : Pos} {g : Env → W D} {m0 : W (D × D × D × D)} {k : D × D × D × D → W γ} {ρ' : D × D × D × D → Env} (i j l o : Nat) (h : E G X Wx e g) (ht : PTg X tg (.tp [.nm i, .nm j, .nm l, .nm o])) (hg : bnd (g ρ) unp4 = m0)
    (hρ : ∀ a : D × D × D × D, (((ρ.set i (.d a.1)).set j (.d a.2.1)).set l (.d a.2.2.1)).set o (.d a.2.2.2) = ρ' a) (inj : ∀ a b, ρ' a = ρ' b → a = b) (hr : ∀ a, SG G X Wx rest (ρ' a) En (k a))
    (h1 : (assignEach [tg] X.env).map (·.2) = [assign tg X.env] := by rfl) (hs : swapsWithSole [tg] e pos.line X.env = pure false := by rfl) (hw : swappedStores [tg] e X.env = pure none := by rfl) : SG G X Wx (.Assign [tg] e pos :: rest) ρ En (bnd m0 k) :=
  sg_stmt (e := ρ') (s_asg h ht h1 hs hw) (by
    have q : (fun d => bnd (setT (.tp [.nm i, .nm j, .nm l, .nm o]) d ρ) fun ρ' => ret (Out.nx ρ')) = fun d => bnd (unp4 d) fun p => ret (.nx (ρ' p)) := by
      funext d
      rw [setT_tp4]
      show bnd (unp4 d) _ = _
      congr 1
      funext p
      rw [← hρ]
      rfl
    rw [q, ← bnd_bnd, hg]) inj hr
end
/-! ### constants of the module: tuples of tuples -/
def GlobD (K : PySem.W.Frag) (mg : Str → Option Value) (x : Str) (d : D) : Prop := ∃ (v : V) (u : Value), mg x = some u ∧ RelV v u ∧ ∀ S H, Rep K S H d v
theorem e_gd {G : PenK} {X : Cx} {Wx : WX} {x : Str} {d : D} {pos : Pos} (h : GlobD X.K X.mg x d) (hg : Gl X x := by rfl) (hd : (x == ("__debug__" : Str)) = false := by decide) : E G X Wx (.Name x pos) (fun _ => ret d) := by
  obtain ⟨v, u, hm, hr, r⟩ := h
  exact e_cst (pe_glob hg hm hr hd) r
theorem rep_wt {K : PySem.W.Frag} {a : Addr} {its : Array Value} {n : Nat} {sl : Array (Option Value)} {vs : List V} {xs : List D} (l : K.lookup a = some ⟨.type "tuple", none, .seq its n, sl⟩) (hz : its.size ≤ sizeLine) (hv : Vals vs its.toList) (hx : xs.length ≤ sizeLine) (r : ∀ S H, Reps K S H xs vs) : ∀ S H, Rep K S H (.tup xs) (.ref a) :=
  fun S H => ⟨a, vs, rfl, .inr ⟨_, its, n, l, rfl, rfl, rfl, hz, hv⟩, hx, r S H⟩
end PL

/-! The source [cells, turn, rest] with tables and changing objects; what a law wants of its source. -/
namespace PL
open PySem PySem.Spec L2
/-- the state of the source behind a change of its list alone -/
theorem After.drawW {S : Addr → Prop} {H H2 : Hp} {a b : Addr} {cs : List Int} {t g : Int} {k : Nat} (hne : a ≠ b) (dom : ∀ x, S x → H x ≠ none) (ha : H a ≠ none) (nSa : ¬ S a) (nSb : ¬ S b) (hb : H b = some (.lst (cs.map V.int))) {T : List (Addr × Str)} {mg : Str → Option Value} (htb : ∀ q ∈ T, ¬ S q.1 ∧ TabI S H q.1 q.2) (haL : ∃ xs, H a = some (.lst xs)) {K : PySem.W.Frag} {n : Nt} {bb : Bool} (hm : MuOk ((penG.wt T mg).wc bb) K S H (some (a, b)) n)
    (sm : ∀ x o, x ≠ a → H x = some o → H2 x = some o) (h2 : H2 a = some (.lst [.ref b, .int t, .int g])) (h3 : cs.length ≤ 63) (ht : 0 ≤ t) (hk : t ≤ k) (hg : 0 ≤ g) : After ((penG.wt T mg).wc bb) K S S (some (a, b)) n H H2 ⟨k, n.μ⟩ := by
  have eqS : ∀ x, S x → H2 x = H x := fun x hx => by
    cases e : H x with
    | none => exact absurd e (dom x hx)
    | some o => exact sm x o (fun z => nSa (z ▸ hx)) e
  refine ⟨⟨fun _ h => h, eqS⟩, fun x hx => by rw [eqS x hx]; exact dom x hx, fun x hx => .inl hx, fun x o e hp _ _ => sm x o (hp (a, b) rfl).1 e, fun q hq => TabI.grow ⟨fun _ h => h, eqS⟩ (tab_eq sm (htb q hq).2 haL) (htb q hq).2, fun p e => ?_, fun x nd e => ?_, fun _ h => h, hm.2⟩
  · cases e
    exact ⟨⟨hne, cs, t, g, h2, sm b _ (Ne.symm hne) hb, h3, ht, hk, hg⟩, nSa, nSb⟩
  · obtain ⟨m1, m2, m3, m4⟩ := hm.1 x nd e
    obtain ⟨o, eo⟩ := Option.ne_none_iff_exists'.mp m1.there
    exact ⟨m1.grow ⟨fun _ h => h, eqS⟩ ((sm x o (m3 (a, b) rfl).1 eo).trans eo.symm), m2, .inl (by rw [e]; exact fun z => nomatch z)⟩
end PL

/-! Texts: split, upper, int(text), str(x). try: v = e. -/
namespace PL
open PySem PySem.Spec PyProof.Rows L2
section
variable {G : PenK} {X : Cx} {Wx : WX}
end
section
variable {G : PenK} {X : Cx} {Wx : WX} {γ : Type} {En : Enz γ} {ρ : Env} {rest : List Stmt} {m : W γ}
end
end PL

/-! Texts parted; x, *ys = a list; enumerate(list, start=k). -/
namespace PL
open PySem PySem.Spec PyProof.Rows L2
section
variable {X : Cx} {pins : List (Addr × Obj)} {σ : L2.St} {H : Hp} {s : Shared}
end
section
variable {G : PenK} {X : Cx} {Wx : WX}
end
/-! ### x, *ys = a list -/
section
variable {G : PenK} {X : Cx} {Wx : WX} {γ : Type} {En : Enz γ} {ρ : Env} {rest : List Stmt} {m : W γ}
end
/-! ### enumerate(list, start=k) -/
section
variable {G : PenK} {X : Cx} {Wx : WX}
end
/-! ### str(x) of more, text * int -/
/-- what str(x) gives -/
inductive StrX : D → Str → Prop
  | str (a : Str) : a.length ≤ sizeLine → StrX (.str a) a
  | int (i : Int) : i.natAbs.log2 < 1920 → (toString i : Str).length ≤ sizeLine → StrX (.int i) (toString i)
  | non : StrX .non (Str.ofString "None")
  | lst (xs : List D) : (py (.lst xs)).showable = true → (py (.lst xs)).shown.length ≤ sizeLine → (py (.lst xs)).depth ≤ 60 → (py (.lst xs)).hasDict = false → StrX (.lst xs) (py (.lst xs)).shown
theorem StrX.len {d : D} {y : Str} (h : StrX d y) : y.length ≤ sizeLine := by
  cases h with
  | str _ h => exact h
  | int i h1 h2 => exact h2
  | non => decide +kernel
  | lst xs h1 h2 h3 h4 => exact h2
theorem op_mulStr {X : Cx} : OpR X (binaryOp .Mult) (fun x y H Q => ∃ a n, x = .str a ∧ y = .int n ∧ MulOk a n ∧ Q (.str (Txt.mul a n)) H) := by
  intro pins s σ H x y v u Q I rx ry h
  obtain ⟨a, n, rfl, rfl, hm, q⟩ := h
  obtain ⟨t, rfl⟩ := rx
  obtain ⟨t', rfl⟩ := ry
  exact PySem.SB.mul hm fun t2 k => ⟨.str _, H, I.tok k, ⟨_, rfl⟩, q⟩
def repS (a : Str) (n : Int) : W Str := grd (MulOk a n ∧ (Txt.mul a n).length ≤ sizeLine) (ret (Txt.mul a n))
def repSD (x y : D) : W D := match x, y with
  | .str a, .int n => bnd (repS a n) fun z => ret (.str z)
  | _, _ => stuck
theorem e_repS {G : PenK} {X : Cx} {Wx : WX} {a b : Expr} {pos : Pos} {ga gb : Env → W D} (ha : E G X Wx a ga) (hb : E G X Wx b gb) : E G X Wx (.BinOp a .Mult b pos) (fun ρ => bnd (ga ρ) fun x => bnd (gb ρ) fun y => repSD x y) :=
  e_op op_mulStr (by
    intro c σ ρ H n P PX d e v w Q I rd re h hg hx
    cases d with
    | str x =>
      cases e with
      | int k =>
        cases re
        obtain ⟨rfl, _⟩ := rd
        obtain ⟨⟨h1, h2⟩, h⟩ := h
        exact ⟨x, k, rfl, rfl, h1, hg.at (d := .str (Txt.mul x k)) h I ⟨rfl, h2⟩⟩
      | _ => exact False.elim h
    | _ => exact False.elim h) ha hb
/-! ### two defs that call each other -/
/-! ### x in a tuple of data of any depth -/
section
variable {G : PenK} {X : Cx} {Wx : WX}
end
end PL

/-! The items of a dict, one name for each. -/
namespace PySem
open Sem (wp)
open PySem.W (KdxIt)
section
variable {prog : Program} {w : World} {A : Around} {E : Value → Shared → Prop} {s : Shared}
end
end PySem
namespace PL
open PySem PySem.Spec PyProof.Rows L2
open PySem.W (KdxIt)
section
variable {X : Cx} {e : Expr} {td : TE} {apos cpos px : Pos} {nx : Str}
end
theorem RepK.at {K : PySem.W.Frag} {S : Addr → Prop} {H : Hp} : ∀ {kvs : List (Key × D)} {kws : List (Key × V)} {i : Nat} {k : Key} {x : D}, RepK K S H kvs kws → kvs[i]? = some (k, x) → ∃ v, kws[i]? = some (k, v) ∧ Rep K S H x v
  | [], _, _, _, _, _, e => by simp at e
  | (k0, x0) :: kvs, _, 0, k, x, h, e => by
    obtain ⟨v, ws, rfl, r, _⟩ := h
    cases e
    exact ⟨v, rfl, r⟩
  | (k0, x0) :: kvs, _, i + 1, k, x, h, e => by
    obtain ⟨v, ws, rfl, _, q⟩ := h
    obtain ⟨v', e1, e2⟩ := RepK.at q (by simpa using e)
    exact ⟨v', by simpa using e1, e2⟩
end PL

set_option maxHeartbeats 2000000
/-! [.. for p in d.items() ..] and sorted(d.items()). -/
namespace PL
open PySem PySem.Spec L2
section
variable {G : PenK} {X : Cx} {Wx : WX}
end
end PL
namespace PL
open PySem PySem.Spec PyProof.Rows L2 LiI
open SrtO hiding Str
section
variable {prog : Program} {w : World} {A : Around} {E : Value → Shared → Prop} {s : Shared}
end
end PL
namespace PL
open PySem PySem.Spec PyProof.Rows L2 LiI
section
variable {X : Cx} {e : Expr} {te : TE} {p apos cpos pos : Pos}
end
end PL
namespace PL
open PySem PySem.Spec L2
section
variable {G : PenK} {X : Cx} {Wx : WX}
end
end PL

/-! a, b, c = x, y, z with local names: no triple is made. -/
namespace PL
open PySem PySem.Spec L2
section
variable {G : PenK} {X : Cx} {Wx : WX} {γ : Type} {En : Enz γ} {ρ : Env} {rest : List Stmt} {m : W γ}
end
end PL

/-! for i, (x, y) in enumerate(zip(a, b)), a and b lists: zip's own pair may still be held, or gone. -/
namespace PySem
open Sem (wp)
abbrev IsZipF (h : Heap) (z TI TO : Addr) (f0 : Value) (fl : Bool) : Prop :=
  h.get? z = some { cls := .type "zip", dict := none, data := .fields #[f0, .bool fl, .bool false, .ref TI, .ref TO], slots := #[] }
section
variable {prog : Program} {w : World} {A : Around} {E : Value → Shared → Prop} {s : Shared}
/-- where a zip stands -/
def ZipSt (z TI TO i1 i2 l1 l2 : Addr) (i : Nat) (h : Heap) : Prop :=
  (∃ f0 fl, IsZipF h z TI TO f0 fl ∧ (f0 = .none ∨ ∃ T : Nat, f0 = rawInt T)) ∧ IsPair h TI (.ref i1) (.ref i2) ∧ (∃ a b, IsPair h TO a b) ∧ h.IsListIter i1 l1 i ∧ h.IsListIter i2 l2 i
theorem ZipSt.move {z TI TO i1 i2 l1 l2 : Addr} {i : Nat} {h h' : Heap} (st : ZipSt z TI TO i1 i2 l1 l2 i h) (k : ∀ b ∈ [z, TI, TO, i1, i2], ∀ o, h.get? b = some o → h'.get? b = some o) : ZipSt z TI TO i1 i2 l1 l2 i h' := by
  obtain ⟨⟨f0, fl, hz, h0⟩, hTI, ⟨a, b, hTO⟩, h1, h2⟩ := st
  exact ⟨⟨f0, fl, k z (by simp) _ hz, h0⟩, k TI (by simp) _ hTI, ⟨a, b, k TO (by simp) _ hTO⟩, h1.at fun o q => k i1 (by simp) o q, h2.at fun o q => k i2 (by simp) o q⟩
end
end PySem

namespace PySem
open Sem (wp)
section
variable {prog : Program} {w : World} {A : Around} {E : Value → Shared → Prop} {s : Shared}
end
end PySem
namespace PL
open PySem PySem.Spec PyProof.Rows L2
end PL

namespace PL
open PySem PySem.Spec PyProof.Rows L2
section
variable {G : PenK} {K : PySem.W.Frag} {S : Addr → Prop} {H : Hp} {a b : Addr} {xs ys : List D} {vs ws : List V}
end
section
variable {G : PenK} {X : Cx} {Wx : WX}
end
end PL

/-! try: e, where e is never done without an error. -/
namespace PL
open PySem PySem.Spec PyProof.Rows L2
section
variable {G : PenK} {X : Cx} {Wx : WX} {γ : Type} {En : Enz γ} {ρ : Env} {rest : List Stmt} {m : W γ}
end
section
variable {G : PenK} {X : Cx} {Wx : WX}
end
end PL

/-! x, y = ({}, []); C() with defaults; len of an instance. -/
namespace PL
open PySem PySem.Spec L2 PyProof.Rows
section
variable {G : PenK} {X : Cx} {Wx : WX} {γ : Type} {En : Enz γ} {ρ : Env} {rest : List Stmt} {m : W γ}
end
/-! ### C() -/
/-- the defaults of a def as data -/
def DflD (K : PySem.W.Frag) (fd : FuncData) (ps : List Str) (ds : List D) : Prop := ∃ (us : List Value) (vs : List V), Binds K fd ps us ∧ Vals vs us ∧ ∀ S H, Reps K S H ds vs
theorem binds_dfl0 {K : PySem.W.Frag} {fd : FuncData} {ps : List Str} {T : Addr} {o : Obj} {its : Array Value} {n : Nat} (lT : K.lookup T = some o) (oT : o.data = .seq its n)
    (h : ∀ us : List Value, us.length + its.toList.length = ps.length → ∃ k, bindArgs fd ⟨us, []⟩ = seqItems? (.ref T) >>= k ∧ k (some its) = pure (ps.zip (us ++ its.toList))) : Binds K fd ps its.toList := fun s us X hl => by
  obtain ⟨k, e1, e2⟩ := h us (by rw [← List.length_append]; exact hl)
  refine BindsTo.of_looks fun M => ?_
  rw [e1]
  exact looks_items X lT oT (.of_pure e2)
theorem rep_empty {K : PySem.W.Frag} {a : Addr} {n : Nat} {sl : Array (Option Value)} (l : K.lookup a = some ⟨.type "tuple", none, .seq #[] n, sl⟩) : ∀ S H, Rep K S H (.tup []) (.ref a) := fun S H =>
  ⟨a, [], rfl, .inr ⟨_, #[], n, l, rfl, rfl, rfl, Nat.zero_le _, .nil⟩, Nat.zero_le _, rfl⟩
theorem argsOk_d {K : PySem.W.Frag} {S : Addr → Prop} {H : Hp} {pen : Option (Addr × Addr)} : ∀ {ds : List D} {vs : List V}, Reps K S H ds vs → ArgsOk K S H pen (ds.map .d) vs
  | [], _, h => h
  | x :: xs, _, h => by
    obtain ⟨v, ws, e, r, q⟩ := h
    exact ⟨v, ws, e, r, argsOk_d q⟩
section
variable {G : PenK} {X : Cx} {Wx : WX}
theorem run_make0 {k : Nat} {C fI : Addr} {fd : FuncData} {sn : Str} {ps : List Str} {cn f : Str} {m : List SV → W D} {pins : List (Addr × Obj)} {σ : L2.St} {H : Hp} {s : Shared} {Q : VK} {us : List Value} {vs : List V} (kn : KnI G X k C fI fd sn ps cn f m) (hgd : X.A.guards = some []) (hr : Room (k + 1) X.A) (tk : Takes X Wx)
    (I : Inv X pins σ H s) (r : Vals vs us) (db : Binds X.K fd (sn :: ps) us)
    (h : ∀ x dx, H x = none → H dx = none → dx ≠ x → spI G X.K X.mg ps.length f m (.ref x :: vs) (upd (upd H dx (.own x)) x (.ins C dx [])) (fun v H2 => v = .non ∧ Q (.ref x) H2) (WE Wx σ)) :
    wpAny (model X.prog X.w) X.A (call (.ref C) []) (EP X pins σ Q) X.xe s := by
  have hq := h (s.heap.objs.size + 1) s.heap.objs.size (I.hok.fresh (Nat.le_succ _)) (I.hok.fresh (Nat.le_refl _)) (Nat.ne_of_lt (Nat.lt_succ_self _))
  have I2 := Inv.made (C := C) I
  have r2 : Vals (V.ref (s.heap.objs.size + 1) :: vs) (Value.ref (s.heap.objs.size + 1) :: us) := .cons rfl r
  have hl : ([Value.ref (s.heap.objs.size + 1)] ++ us).length = (sn :: ps).length := by
    have e := r2.length
    rw [kn.F.len _ _ _ _ hq] at e
    exact e.symm
  have hb1 := db { s with heap := (s.heap.push PySem.W.emptyDict).push (PySem.W.instObj C s.heap.objs.size) } [Value.ref (s.heap.objs.size + 1)] I2.kIn hl
  refine wpAny_call (make_map (f := fI) I.kIn kn.M.makes kn.M.init (beq_iff_eq.mp kn.M.fn) (codeAny_mono (kn.F.run _ X.stack _ _ ⟨[Value.ref (s.heap.objs.size + 1)], []⟩ (Value.ref (s.heap.objs.size + 1) :: us) _ _ (WE Wx σ) (make_guards.trans hgd) (hr.make C [] [])
    (I2.env0.make C [] []) hb1 r2 hq) fun r s' hq' => ?_))
  cases r with
  | error e => exact passAt tk σ pins _ _ e s' I2 hq'
  | ok fl =>
    cases fl with
    | ret u =>
      obtain ⟨v, H', I3, rv, ev, q3⟩ := I2.after hq'
      subst ev
      exact ⟨rv, ⟨V.ref (s.heap.objs.size + 1), H', I3, rfl, q3⟩⟩
    | next => exact False.elim hq'
    | brk => exact False.elim hq'
    | cont => exact False.elim hq'
theorem e_make0 {k : Nat} {C fI : Addr} {fd : FuncData} {x sn : Str} {ps : List Str} {cn f : Str} {m : List SV → W D} {ds : List D} {p pos : Pos} (kn : KnI G X k C fI fd sn ps cn f m) (db : DflD X.K fd (sn :: ps) ds) (hl : ds.length = ps.length) (hm : X.mg x = some (.ref C)) (hgd : X.A.guards = some []) (hr : Room (k + 1) X.A) (tk : Takes X Wx)
    (hg : Gl X x := by rfl) (hdb : (x == ("__debug__" : Str)) = false := by decide) :
    E G X Wx (.Call (.Name x p) [] [] pos) (fun ρ => bnd (callM m (ds.map .d)) fun d => ret (.ins cn f d)) :=
  ⟨fun pins s σ H Q I ⟨c, ρ, k0, P, PX, I', q, hgl, hx⟩ => by
    obtain ⟨us, vs, hb, rV, rD⟩ := db
    refine wpAny_Call_Name_kw (ld_glob I hg hm ?_ hdb)
    exact PySem.W.callWith_K0 I.kIn kn.M.kp (run_make0 kn hgd hr tk I rV hb fun x dx xn dn ne => make_core kn.ic I' (by rw [List.length_map]; exact hl) (argsOk_d (rD _ _)) q hgl hx xn dn ne)⟩
/-! ### len of an instance -/
end
end PL

/-! f(x) with a dict of one's own: it is lent to f, and one's own again behind the call (no part of the answer is a dict). -/
namespace PL
open PySem PySem.Spec PyProof.Rows L2
section
variable {K : PySem.W.Frag} {S : Addr → Prop} {H : Hp} {a : Addr} {kws : List (Key × V)}
end
section
variable {G : PenK} {K : PySem.W.Frag} {S S' : Addr → Prop} {pen : Option (Addr × Addr)} {n k : Nt} {H H' : Hp} {a : Addr} {kws : List (Key × V)}
theorem After.drop (hS : ¬ S a) (e : H a = some (.dK kws)) (h : After G K (fun b => S b ∨ b = a) S' pen n H H' k) : After G K S (fun b => S' b ∧ b ≠ a) pen n H H' k ∧ H' a = some (.dK kws) := by
  have e' : H' a = some (.dK kws) := (h.grow.eq a (.inr rfl)).trans e
  refine ⟨⟨⟨fun b z => ⟨h.grow.sub b (.inl z), fun w => hS (w ▸ z)⟩, fun b z => h.grow.eq b (.inl z)⟩, fun b z => h.dom b z.1, fun b z => Or.imp (fun w => Or.elim w id fun w => absurd w z.2) id (h.new b z.1), h.fr, fun q hq => ?_, fun p ep => ⟨(h.pen p ep).1, fun z => (h.pen p ep).2.1 z.1, fun z => (h.pen p ep).2.2 z.1⟩, fun b nd eb => ⟨(h.mu b nd eb).1.move rfl, fun z => (h.mu b nd eb).2.1 z.1, (h.mu b nd eb).2.2⟩, h.mu0, h.mz⟩, e'⟩
  obtain ⟨ps, h1, h2, h3⟩ := h.tab q hq
  refine ⟨ps, h1, h2, fun pos cv z => ?_⟩
  obtain ⟨c, e1, e2, e3⟩ := h3 pos cv z
  exact ⟨c, e1, ⟨e2, fun w => by rw [w, e'] at e3; cases e3⟩, e3⟩
end
section
variable {G : PenK} {X : Cx} {Wx : WX}
end
end PL

/-! x * y, x == y, x != y of two instances of an own class, by its own __mul__ and __eq__. -/
namespace PL
open PySem PySem.Spec PyProof.Rows L2
/-- both are instances of the class at C; the def's promise for them -/
def rIns (G : PenK) (X : Cx) (C : Addr) (m : List SV → W D) : R2 := fun x y H Q => ∃ a b dx fs dy gs, x = .ref a ∧ y = .ref b ∧ H a = some (.ins C dx fs) ∧ H b = some (.ins C dy gs) ∧ spM G X.K X.mg 2 m [.ref a, .ref b] H Q (fun _ _ _ => False)
def insOp (cn f : Str) (m : List SV → W D) (d e : D) : W D := insIs cn f d (insIs cn f e (quiet (callM m [.d d, .d e])))
def notBl : D → W D
  | .bl b => ret (.bl (!b))
  | _ => stuck
section
variable {G : PenK} {X : Cx} {Wx : WX} {k : Nat} {C g : Addr} {cn f : Str} {fd : FuncData} {ps : List Str} {m : List SV → W D}
theorem back_of {v : V} {u : Value} {Q : Value → Shared → Prop} {s : Shared} (r : RelV v u) (h : Q u s) : PySem.W.CmpBack Q u s := by
  cases v with
  | non => cases r; exact h
  | bl b => cases r; exact h
  | int i => obtain ⟨t, rfl⟩ := r; exact h
  | str x => obtain ⟨t, rfl⟩ := r; exact h
  | byt b => obtain ⟨t, rfl⟩ := r; exact h
  | flt b => obtain ⟨t, rfl⟩ := r; exact h
  | ref a => cases r; exact h
  | ty n => cases r; exact h
/-- the call of the method -/
theorem ins_run {A : Around} {pins : List (Addr × Obj)} {σ : L2.St} {H : Hp} {s : Shared} {Q : VK} {a b : Addr} {E' : Value → Shared → Prop} {R : Value → Shared → Prop} (kn : KnM G X k g fd ps m) (h1 : ps.length = 2) (hgd : A.guards = some []) (hr : Room k A) (e0 : Env0 X.prog X.w X.K X.mg X.base A X.stack s H) (I : Inv X pins σ H s)
    (h : spM G X.K X.mg 2 m [.ref a, .ref b] H Q (fun _ _ _ => False)) (hR : ∀ (u : Value) (s' : Shared) (v : V) (H' : Hp), Inv X pins σ H' s' → RelV v u → Q v H' → R u s') : wpAny (model X.prog X.w) A (call (.ref g) [.ref a, .ref b]) R E' s := by
  have hl : ([Value.ref a, Value.ref b] ++ []).length = ps.length := h1.symm
  refine wpAny_call (codeAny_mono (kn.F.run A X.stack s H ⟨[.ref a, .ref b], []⟩ [.ref a, .ref b] [.ref a, .ref b] Q (fun _ _ _ => False) hgd hr e0 (kn.bd s [.ref a, .ref b] I.kIn hl) (.cons rfl (.cons rfl .nil)) (h1 ▸ h)) fun r s' hq => ?_)
  cases r with
  | error er =>
    obtain ⟨_, _, _, _, _, _, _, _, _, _, _, _, hf⟩ := hq
    exact hf.elim
  | ok fl =>
    cases fl with
    | ret u =>
      obtain ⟨v, H', I3, rv, q3⟩ := I.after hq
      exact hR u s' v H' I3 rv q3
    | next => exact False.elim hq
    | brk => exact False.elim hq
    | cont => exact False.elim hq
theorem op_eqIns (hs : PySem.W.findIn X.K (.ref C) "__eq__" = some (some (.ref g))) (hf : PySem.W.isFn X.K (.ref g) = true) (kn : KnM G X k g fd ps m) (h1 : ps.length = 2) (hgd : X.A.guards = some []) (hr : Room k X.A) (hu : X.A.units < cLine) : OpR X (compareOp .Eq) (rIns G X C m) := by
  intro pins s σ H x y v u Q I rx ry ⟨a, b, dx, fs, dy, gs, ex, ey, ea, eb, q⟩
  subst ex ey
  obtain rfl : v = Value.ref a := rx
  obtain rfl : u = Value.ref b := ry
  obtain ⟨mA, O, _, _, _, _⟩ := ins_get I.hok ea
  obtain ⟨od, J, _⟩ := O.look
  obtain ⟨mB, OB, _, _, _, _⟩ := ins_get I.hok eb
  obtain ⟨odB, JB, _⟩ := OB.look
  obtain ⟨mm, hF⟩ := I.fr
  show wpAny _ _ (richCompare .Eq (.ref a) (.ref b)) _ _ _
  exact PySem.W.cmp_K hu hF I.ok.mod.kin J JB.type (by simp [PySem.W.notFirst]) hs hf (ins_run kn h1 hgd hr I.env0 I q fun u s' v H' I3 rv q3 => back_of rv ⟨v, H', I3, rv, q3⟩)
theorem op_mulIns (hs : PySem.W.findIn X.K (.ref C) "__mul__" = some (some (.ref g))) (hf : PySem.W.isFn X.K (.ref g) = true) (hc : PySem.W.selfFirst X.K C = true) (kn : KnM G X k g fd ps m) (h1 : ps.length = 2) (hgd : X.A.guards = some []) (hr : Room k X.A) : OpR X (binaryOp .Mult) (rIns G X C m) := by
  intro pins s σ H x y v u Q I rx ry ⟨a, b, dx, fs, dy, gs, ex, ey, ea, eb, q⟩
  subst ex ey
  obtain rfl : v = Value.ref a := rx
  obtain rfl : u = Value.ref b := ry
  obtain ⟨mA, O, _, _, _, _⟩ := ins_get I.hok ea
  obtain ⟨od, J, _⟩ := O.look
  obtain ⟨mB, OB, _, _, _, _⟩ := ins_get I.hok eb
  obtain ⟨odB, JB, _⟩ := OB.look
  obtain ⟨mm, hF⟩ := I.fr
  exact PySem.W.binop_K (op := .Mult) hF I.ok.mod.kin J JB.type hc hs hf (ins_run kn h1 hgd hr I.env0 I q fun u s' v H' I3 rv q3 => back_of rv ⟨v, H', I3, rv, q3⟩)
theorem ifBound_B {M : Model} {A : Around} {E : Value → Shared → Prop} {K : PySem.W.Frag} {s : Shared} {x : Addr} {ox : Obj} {od : Option Obj} {name : Str} {id : String} {args : List Value} {Q : Option Value → Shared → Prop} (Xk : K.In s.heap) (I : PySem.W.InstAt s.heap x ox C od) (hs : PySem.W.findIn K (.ref C) name = some (some (.builtin id))) (hb : ∀ self, bindSpecial (.builtin id) self = pure (.builtin id, [self]))
    (h : wpAny M A (call (.builtin id) (.ref x :: args)) (fun v => Q (some v)) E s) : wpAny M A (callSpecialIfBound? (.ref x) name args) Q E s := by
  simp only [callSpecialIfBound?, bindSpecialIfBound?]
  refine wpAny_holding (wpAny_bind (wpAny_bind (wpAny_bind (I.type.here ((PySem.W.looks_findIn Xk hs).here ?_)))))
  simp only [hb]
  refine wpAny_bind (wpAny_askSetting (wpAny_ite ?_))
  have fin : wpAny M A (call (.builtin id) ([.ref x] ++ args) >>= fun v => pure (some v)) Q E s := wpAny_bind (wpAny_mono h (fun v s' h' => wpAny_pure h') fun _ _ h' => h')
  split
  · exact wpAny_bind (wpAny_pure (wpAny_pure fin))
  · exact wpAny_tryCatch (wpAny_bind (wpAny_pure (wpAny_pure fin)))
theorem op_neIns (hs : PySem.W.findIn X.K (.ref C) "__eq__" = some (some (.ref g))) (hf : PySem.W.isFn X.K (.ref g) = true) (hn : PySem.W.findIn X.K (.ref C) "__ne__" = some (some (.builtin "object.__ne__"))) (hob : PySem.W.mroIn X.K C (.type "object") = some true) (kn : KnM G X k g fd ps m) (h1 : ps.length = 2) (hgd : X.A.guards = some []) (hr : Room (k + 1) X.A) (hu : X.A.units + 1 < cLine) :
    OpR X (compareOp .NotEq) (fun x y H Q => rIns G X C m x y H fun v H' => ∃ b, v = .bl b ∧ Q (.bl (!b)) H') := by
  intro pins s σ H x y v u Q I rx ry ⟨a, b, dx, fs, dy, gs, ex, ey, ea, eb, q⟩
  subst ex ey
  obtain rfl : v = Value.ref a := rx
  obtain rfl : u = Value.ref b := ry
  obtain ⟨mA, O, _, _, _, _⟩ := ins_get I.hok ea
  obtain ⟨od, J, _⟩ := O.look
  obtain ⟨mB, OB, _, _, _, _⟩ := ins_get I.hok eb
  obtain ⟨odB, JB, _⟩ := OB.look
  obtain ⟨mm, hF⟩ := I.fr
  have hu0 : X.A.units < cLine := Nat.lt_of_succ_lt hu
  have Xk := I.ok.mod.kin.keeps hF.keep
  have one : wpAny (model X.prog X.w) X.A (tryCompare (.ref a) "__ne__" (.ref b)) (fun r s' => ∃ v, r = some v ∧ EP X pins σ Q v s') X.xe s := by
    unfold tryCompare
    refine wpAny_bind (ifBound_B Xk J hn F.cmp_object.ne.bind (wpAny_call (codeAny_call_builtin F.cmp_object.ne.plain F.cmpEntry_ne (PySem.W.check_slot F.cmpKind_ne F.cmpSplit_ne (J.type.andThen (PySem.W.looks_mroIn Xk hob)) (F.cmpArgs_ne _ _) ?_))))
    unfold Builtin.«object.__ne__»
    repeat (first | with_reducible refine wpAny_cRoomFor hu ?_ | (with_reducible refine PySem.W.ifBound_K Xk J hs hf (ins_run kn h1 hgd hr.in1 I.env0.in1 I q fun u s' v H' I3 rv q3 => ?_)) | wp_step)
    obtain ⟨bb, rfl, q4⟩ := q3
    obtain rfl : u = Value.bool bb := rv
    repeat (first | with_reducible refine wpAny_truthy_bool ?_ | wp_step)
    exact ⟨_, rfl, .bl (!bb), H', I3, rfl, q4⟩
  show wpAny _ _ (richCompare .NotEq (.ref a) (.ref b)) _ _ _
  unfold richCompare
  simp only [oneThing_ref]
  refine wpAny_holding (wpAny_bind (wpAny_cRoomFor hu0 ?_))
  refine wpAny_bind (J.type.here (wpAny_bind (JB.type.here ?_)))
  simp only [bne_self_eq_false, Bool.false_eq_true, if_false]
  refine wpAny_bind (wpAny_pure ?_)
  simp only [Bool.false_eq_true, if_false]
  refine wpAny_bind (wpAny_mono one (fun r s' z => ?_) fun _ _ e => e)
  obtain ⟨v, rfl, hq⟩ := z
  exact wpAny_pure hq
theorem v2_ins (ic : InsC X.K cn f C) : V2 G X Wx (insOp cn f m) (rIns G X C m) := by
  intro c σ ρ H n P PX d e v w Q I rd re h hg hx
  obtain ⟨x, rfl, h⟩ := insIs_inv h
  obtain ⟨y, rfl, h⟩ := insIs_inv h
  obtain ⟨a, C', dx, w1, rfl, i, ⟨hS, ha⟩, rw1⟩ := id rd
  obtain rfl := ic.same i
  obtain ⟨b, C'', dy, w2, rfl, i2, ⟨hS2, hb⟩, rw2⟩ := id re
  obtain rfl := ic.same i2
  exact ⟨a, b, dx, _, dy, _, rfl, rfl, ha, hb, call_core (Wx := WF) (args := [.d (.ins cn f x), .d (.ins cn f y)]) I rfl ⟨_, _, rfl, rd, _, _, rfl, re, rfl⟩ h hg quiet_x⟩
theorem v2_insN (ic : InsC X.K cn f C) : V2 G X Wx (fun d e => bnd (insOp cn f m d e) notBl) (fun x y H Q => rIns G X C m x y H fun v H' => ∃ b, v = .bl b ∧ Q (.bl (!b)) H') := by
  intro c σ ρ H n P PX d e v w Q I rd re h hg hx
  refine v2_ins (Wx := Wx) ic c σ ρ H n (fun d k => notBl d k P PX) PX d e v w _ I rd re h (fun d k v S' H' p g I' r => ?_) hx
  cases d with
  | bl b =>
    cases r
    exact ⟨b, rfl, hg (.bl (!b)) k (.bl (!b)) S' H' p g I' rfl⟩
  | _ => exact False.elim p
theorem cm_eqIns (ic : InsC X.K cn f C) (hs : PySem.W.findIn X.K (.ref C) "__eq__" = some (some (.ref g))) (hf : PySem.W.isFn X.K (.ref g) = true) (kn : KnM G X k g fd ps m) (h1 : ps.length = 2) (hgd : X.A.guards = some []) (hr : Room k X.A) (hu : X.A.units < cLine) : Cm G X Wx .Eq (insOp cn f m) := ⟨_, op_eqIns hs hf kn h1 hgd hr hu, v2_ins ic⟩
theorem cm_neIns (ic : InsC X.K cn f C) (hs : PySem.W.findIn X.K (.ref C) "__eq__" = some (some (.ref g))) (hf : PySem.W.isFn X.K (.ref g) = true) (hn : PySem.W.findIn X.K (.ref C) "__ne__" = some (some (.builtin "object.__ne__"))) (hob : PySem.W.mroIn X.K C (.type "object") = some true) (kn : KnM G X k g fd ps m) (h1 : ps.length = 2) (hgd : X.A.guards = some []) (hr : Room (k + 1) X.A) (hu : X.A.units + 1 < cLine) : Cm G X Wx .NotEq (fun d e => bnd (insOp cn f m d e) notBl) := ⟨_, op_neIns hs hf hn hob kn h1 hgd hr hu, v2_insN ic⟩
theorem e_mulIns {a b : Expr} {pos : Pos} {ga gb : Env → W D} (ic : InsC X.K cn f C) (hs : PySem.W.findIn X.K (.ref C) "__mul__" = some (some (.ref g))) (hf : PySem.W.isFn X.K (.ref g) = true) (hc : PySem.W.selfFirst X.K C = true) (kn : KnM G X k g fd ps m) (h1 : ps.length = 2) (hgd : X.A.guards = some []) (hr : Room k X.A) (ha : E G X Wx a ga) (hb : E G X Wx b gb) :
    E G X Wx (.BinOp a .Mult b pos) (fun ρ => bnd (ga ρ) fun x => bnd (gb ρ) fun y => insOp cn f m x y) := e_op (op_mulIns hs hf hc kn h1 hgd hr) (v2_ins ic) ha hb
end
end PL

/-! def f(*v): what is given comes as one tuple; calls of such a def. -/
namespace PL
open PySem PySem.Spec PyProof.Rows L2
/-- the promise of a def f(*v) -/
structure FnS (G : PenK) (P : Program) (w : World) (K : PySem.W.Frag) (mg : Str → Option Value) (base : Heap) (k : Nat) (f : Addr) (m : List SV → W D) : Prop where
  run : ∀ (A : Around) (outer : List PySem.Env) (s : Shared) (H : Hp) (us : List Value) (vs : List V) (Q : VK) (E : XK), A.guards = some [] → Room k A → Env0 P w K mg base A outer s H → Vals vs us → vs.length ≤ sizeLine →
    NewT H vs (fun v H' => spM G K mg 1 m [v] H' Q E) → codeAny (model P w) A (.call (.ref f) ⟨us, []⟩) (CR (L2.CX P w) outer P w H s Q E) s
theorem FnS.mono {G : PenK} {P : Program} {w : World} {K : PySem.W.Frag} {mg : Str → Option Value} {base : Heap} {j k : Nat} {f : Addr} {m : List SV → W D} (F : FnS G P w K mg base j f m) (h : j ≤ k) : FnS G P w K mg base k f m :=
  ⟨fun A outer s H us vs Q E hg hr => F.run A outer s H us vs Q E hg (hr.mono h)⟩
section
variable {G : PenK} {P : Program} {w : World} {K : PySem.W.Frag} {mg : Str → Option Value} {base : Heap}
end
section
variable {G : PenK} {X : Cx} {Wx : WX}
structure KnS (G : PenK) (X : Cx) (k : Nat) (x : Str) (f : Addr) (m : List SV → W D) : Prop where
  F : FnS G X.prog X.w X.K X.mg X.base k f m
  mg : X.mg x = some (.ref f)
  kp : PySem.W.keepIn X.K (.ref f) = true
/-- isinstance(x, C) of an instance of C -/
theorem e_isOwn {cn f y : Str} {C : Addr} {p py pos : Pos} {e : Expr} {g : Env → W D} (ic : InsC X.K cn f C) (me : PySem.W.kitOne X.K (.ref C) (.ref C) = some true) (hm : X.mg "isinstance" = none) (hc : X.mg y = some (.ref C)) (h : E G X Wx e g)
    (hg : Gl X "isinstance" := by rfl) (hgy : Gl X y := by rfl) (hdb : (y == ("__debug__" : Str)) = false := by decide) (he : starEach [e, .Name y py] X.env = (false, eval e X.env) :: starEach [.Name y py] X.env := by rfl)
    (he2 : starEach [.Name y py] X.env = (false, eval (.Name y py) X.env) :: starEach [] X.env := by rfl) (hpl : (backTo pos (starEach [.Name y py] X.env)).any (·.1) = false := by rfl) :
    E G X Wx (.Call (.Name "isinstance" p) [e, .Name y py] [] pos) (fun ρ => bnd (g ρ) fun d => insIs cn f d (ret (.bl true))) :=
  weakE (pe_callB (C8.call_isC ⟨ic.cls, ic.ca, ic.cn, ic.ct, ic.cm, me⟩) hg hm PyProof.Rows.boot_isinstance (two_a h (pe_glob (v := .ref C) hgy hc rfl hdb) he he2) (by decide) (by decide) he hpl) fun σ H Q ⟨c, ρ, n, P, PX, I, q, hg, hx⟩ => tE.bnd I q hx fun d k u S' H' p g I' hx' r => by
    obtain ⟨x, rfl, p2⟩ := insIs_inv p
    obtain ⟨a, C', dx, w1, rfl, i, ⟨hS, ha⟩, rw1⟩ := id r
    obtain rfl := ic.same i
    exact ⟨a, dx, _, rfl, ha, hg (.bl true) k _ S' H' p2 g I' rfl⟩
/-- C(), closed against being run -/
@[irreducible] def newK (m : List SV → W D) (cn f : Str) (args : List SV) : W D := bnd (callM m args) fun d => ret (.ins cn f d)
theorem newK_eq (m : List SV → W D) (cn f : Str) (args : List SV) : newK m cn f args = bnd (callM m args) fun d => ret (.ins cn f d) := by unfold newK; rfl
theorem e_make0K {k : Nat} {C fI : Addr} {fd : FuncData} {x sn : Str} {ps : List Str} {cn f : Str} {m : List SV → W D} {ds : List D} {p pos : Pos} (kn : KnI G X k C fI fd sn ps cn f m) (db : DflD X.K fd (sn :: ps) ds) (hl : ds.length = ps.length) (hm : X.mg x = some (.ref C)) (hgd : X.A.guards = some []) (hr : Room (k + 1) X.A) (tk : Takes X Wx)
    (hg : Gl X x := by rfl) (hdb : (x == ("__debug__" : Str)) = false := by decide) :
    E G X Wx (.Call (.Name x p) [] [] pos) (fun ρ => newK m cn f (ds.map .d)) :=
  (e_make0 kn db hl hm hgd hr tk hg hdb).eq (by funext ρ; rw [newK_eq])
end
end PL

/-! max(i, j) of two ints. -/
namespace PL
open PySem PySem.Spec PyProof.Rows L2
def max2 (i j : Int) : Int := if j > i then j else i
def max2D : D → D → W D
  | .int i, .int j => ret (.int (max2 i j))
  | _, _ => stuck
def max2L : List D → W D
  | [x, y] => max2D x y
  | _ => stuck
section
variable {G : PenK} {X : Cx} {Wx : WX}
theorem va_max2 : VA G X Wx max2L (fun xs H Q => ∃ i j, xs = [.int i, .int j] ∧ Q (.int (if j > i then j else i)) H) := by
  intro c σ ρ H n P PX ds vs Q I rs q hg hx
  match ds, rs, q with
  | [x, y], rs, q =>
    obtain ⟨v, ws, rfl, r1, rs⟩ := rs
    obtain ⟨v2, ws2, rfl, r2, rs⟩ := rs
    obtain rfl := rs
    have q : max2D x y n P PX := q
    cases x with
    | int i =>
      cases y with
      | int j =>
        cases r1
        cases r2
        exact ⟨i, j, rfl, hg (.int (max2 i j)) n (.int (max2 i j)) c.S H q .refl I rfl⟩
      | _ => exact q.elim
    | _ => cases y <;> exact q.elim
theorem e_max2 {p pos : Pos} {a b : Expr} {ga gb : Env → W D} (hc : X.calm = true) (hm : X.mg "max" = none) (ha : E G X Wx a ga) (hb : E G X Wx b gb) (hg : Gl X "max" := by rfl)
    (he : starEach [a, b] X.env = (false, eval a X.env) :: starEach [b] X.env := by rfl) (he2 : starEach [b] X.env = (false, eval b X.env) :: starEach [] X.env := by rfl) (hpl : (backTo pos (starEach [b] X.env)).any (·.1) = false := by rfl) :
    E G X Wx (.Call (.Name "max" p) [a, b] [] pos) (fun ρ => bnd (ga ρ) fun x => bnd (gb ρ) fun y => max2D x y) :=
  (e_callB hm PyProof.Rows.boot_max (call_max2 hc) va_max2 (a_cons ha (a_cons hb a_nil he2) he) hg (by decide) (by decide) he hpl).eq (by
    funext ρ
    simp only [bnd_bnd, bnd_ret]
    rfl)
end
end PL

/-! a tuple * k for every k from 0 to 1000, the empty tuple too. -/
namespace PL
open PySem PySem.Spec PyProof.Rows L2
theorem tup_mul_self (l : Addr) (items : Array Value) (n : Nat) (dd : Option Addr) (sl : Array (Option Value)) (x : Int) (u : Tok) (c0 : (decide (x < -(2 ^ 63)) || decide (x ≥ 2 ^ 63)) = false) (c1 : (items.isEmpty || x == 1) = true) :
    Meets (Builtin.«tuple.__mul__» ⟨[.ref l, .int x u], []⟩) (fun _ R s => s.heap.get? l = some { cls := .type "tuple", dict := dd, data := .seq items n, slots := sl } ∧ R (.ok (.ret (Value.ref l))) s) :=
  .of_wp fun prog w A R s h => by
    obtain ⟨hp, g, d, tk, os⟩ := s
    obtain ⟨hl, h⟩ := h
    have f1 := AutoSeq1.idx_int
    wp_walk using wpAny_loadPart' hl
    repeat (first
      | (refine wpAny_ite_false (decide_eq_false (by rw [c0]; exact Bool.false_ne_true)) ?_; wp_walk using wpAny_loadPart' hl)
      | (refine wpAny_ite_true (decide_eq_true c1) ?_; wp_walk using wpAny_loadPart' hl))
    exact ⟨_, rfl, h⟩
theorem tup_mul_none (l : Addr) (items : Array Value) (n : Nat) (dd : Option Addr) (sl : Array (Option Value)) (x : Int) (u : Tok) (c0 : (decide (x < -(2 ^ 63)) || decide (x ≥ 2 ^ 63)) = false) (c1 : (items.isEmpty || x == 1) = false) (c2 : (decide (x ≤ 0) || items.isEmpty) = true) :
    Meets (Builtin.«tuple.__mul__» ⟨[.ref l, .int x u], []⟩) (fun _ R s => s.heap.get? l = some { cls := .type "tuple", dict := dd, data := .seq items n, slots := sl } ∧
      R (.ok (.ret (Value.ref s.heap.objs.size))) { s with heap := s.heap.push { cls := Value.type "tuple", data := Data.seq #[] }, toks := s.toks }) :=
  .of_wp fun prog w A R s h => by
    obtain ⟨hp, g, d, tk, os⟩ := s
    obtain ⟨hl, h⟩ := h
    have f1 := AutoSeq1.idx_int
    wp_walk using wpAny_loadPart' hl
    repeat (first
      | (refine wpAny_ite_false (decide_eq_false (by rw [c0]; exact Bool.false_ne_true)) ?_; wp_walk using wpAny_loadPart' hl)
      | (refine wpAny_ite_false (decide_eq_false (by rw [c1]; exact Bool.false_ne_true)) ?_; wp_walk using wpAny_loadPart' hl)
      | (refine wpAny_ite_true (decide_eq_true c2) ?_; wp_walk using wpAny_loadPart' hl)
      | (refine wpAny_ite_false (decide_eq_false (Nat.not_lt.mpr (Nat.zero_le _))) ?_; wp_walk using wpAny_loadPart' hl))
    exact ⟨_, rfl, h⟩
def rRepS (K : PySem.W.Frag) : R2 := fun x y H Q => ∃ l k xs, x = .ref l ∧ y = .int k ∧ SqT K H l xs ∧ (xs = [] ∨ k = 1) ∧ 0 ≤ k ∧ k ≤ 1000 ∧ Q (.ref l) H
def rRep0 (K : PySem.W.Frag) : R2 := fun x y H Q => ∃ l xs, x = .ref l ∧ y = .int 0 ∧ SqT K H l xs ∧ xs ≠ [] ∧ NewT H [] Q
section
variable {X : Cx}
theorem op_repS : OpR X (binaryOp .Mult) (rRepS X.K) := by
  intro pins s σ H x y v u Q I rx ry h
  obtain ⟨l, k, xs, rfl, rfl, hT, hne, h1, h2, q⟩ := h
  cases rx
  obtain ⟨t, rfl⟩ := ry
  obtain ⟨its, r, ⟨⟨cls, dd, data, sl⟩, ho, hc, n, hd⟩, hs⟩ := I.tuple hT
  simp only at hc hd
  subst hc hd
  have c0 : (decide (k < -(2 ^ 63)) || decide (k ≥ 2 ^ 63)) = false := by
    rw [decide_eq_false (by omega), decide_eq_false (by omega)] <;> rfl
  have c1 : (its.toArray.isEmpty || k == 1) = true := by
    rcases hne with e | e
    · have : its = [] := by
        rw [e] at r
        cases r
        rfl
      rw [this]
      rfl
    · rw [e, show ((1 : Int) == 1) = true from rfl, Bool.or_true]
  exact wpAny_binaryOp_repeat_ref (T := "tuple") (U := "int") (by decide) ⟨_, ho, rfl⟩ (fun s' => typeIs_int s' k t) noFill_tuple_mul F.fills_int_mul F.slot_int_rmul repeat_tuple F.slot_int_index.lookup
    (call_meets F.slot_int_rmul (typeIs_int s k t) F.entry_int_rmul (F.args_int_rmul_2 _ _) (int_rmul_tuple k t l its.toArray n dd sl)
      ⟨ho, rfl, ⟨_, ho, rfl⟩, call_meets F.slot_tuple_mul ⟨_, ho, rfl⟩ F.entry_tuple_mul (F.args_tuple_mul_2 _ _) (tup_mul_self l its.toArray n dd sl k t c0 c1) ⟨ho, ⟨.ref l, H, I, rfl, q⟩⟩⟩)
theorem op_rep0 : OpR X (binaryOp .Mult) (rRep0 X.K) := by
  intro pins s σ H x y v u Q I rx ry h
  obtain ⟨l, xs, rfl, rfl, hT, hne, q⟩ := h
  cases rx
  obtain ⟨t, rfl⟩ := ry
  obtain ⟨its, r, ⟨⟨cls, dd, data, sl⟩, ho, hc, n, hd⟩, hs⟩ := I.tuple hT
  simp only at hc hd
  subst hc hd
  have hn : its ≠ [] := fun e => hne (r.nil_iff.mp e)
  have hi : its.toArray.isEmpty = false := by
    cases its with
    | nil => exact absurd rfl hn
    | cons a b => rfl
  have c1 : (its.toArray.isEmpty || (0 : Int) == 1) = false := by rw [hi]; rfl
  refine wpAny_binaryOp_repeat_ref (T := "tuple") (U := "int") (by decide) ⟨_, ho, rfl⟩ (fun s' => typeIs_int s' 0 t) noFill_tuple_mul F.fills_int_mul F.slot_int_rmul repeat_tuple F.slot_int_index.lookup
    (call_meets F.slot_int_rmul (typeIs_int s 0 t) F.entry_int_rmul (F.args_int_rmul_2 _ _) (int_rmul_tuple 0 t l its.toArray n dd sl)
      ⟨ho, rfl, ⟨_, ho, rfl⟩, call_meets F.slot_tuple_mul ⟨_, ho, rfl⟩ F.entry_tuple_mul (F.args_tuple_mul_2 _ _) (tup_mul_none l its.toArray n dd sl 0 t (by decide) c1 rfl) ⟨ho, ?_⟩⟩)
  exact newT (its := []) I .nil (by decide) q
end
def repT : D → D → W D
  | .tup xs, .int k => grd (0 ≤ k ∧ k ≤ 1000 ∧ xs.length ≤ 1000) (ret (.tup (repL xs k)))
  | _, _ => stuck
theorem repL_one (xs : List D) : repL xs 1 = xs := by
  show (List.replicate 1 xs).flatten = xs
  simp
theorem repL_nil (k : Int) : repL [] k = [] := by
  unfold repL
  simp
theorem repL_zero (xs : List D) : repL xs 0 = [] := rfl
section
variable {G : PenK} {X : Cx} {Wx : WX}
theorem e_repT {a b : Expr} {pos : Pos} {ga gb : Env → W D} (ha : E G X Wx a ga) (hb : E G X Wx b gb) : E G X Wx (.BinOp a .Mult b pos) (fun ρ => bnd (ga ρ) fun x => bnd (gb ρ) fun y => repT x y) :=
  e_op ((op_repZ.or op_repS).or op_rep0) (by
    intro c σ ρ H n P PX d e v w Q I rd re h hg hx
    cases d with
    | tup xs =>
      cases e with
      | int k =>
        cases re
        obtain ⟨⟨z1, z2, z3⟩, h⟩ := h
        obtain ⟨a, vs, rfl, r1, z, q1⟩ := id rd
        have hl := q1.len
        by_cases he : xs = []
        · subst he
          rw [repL_nil] at h
          have : vs = [] := q1
          exact .inl (.inr ⟨a, k, vs, rfl, rfl, r1.sq, .inl this, z1, z2, hg.at h I rd⟩)
        by_cases h1 : k = 1
        · subst h1
          rw [repL_one] at h
          exact .inl (.inr ⟨a, 1, vs, rfl, rfl, r1.sq, .inr rfl, z1, z2, hg.at h I rd⟩)
        have hv : vs ≠ [] := fun e => he (List.eq_nil_of_length_eq_zero (by rw [← hl, e]; rfl))
        by_cases h0 : k = 0
        · subst h0
          rw [repL_zero] at h
          exact .inr ⟨a, vs, rfl, rfl, r1.sq, hv, fun p o hp hd => hg.new h I hp fun g => ⟨p, [], rfl, .inl ⟨.inr rfl, o, upd_same, hd⟩, by decide, rfl⟩⟩
        refine .inl (.inl ⟨a, k, vs, rfl, rfl, r1.sq, hv, by omega, z2, by rw [hl]; exact z3, fun p o hp hd => hg.new h I hp fun g => ⟨p, _, rfl, .inl ⟨.inr rfl, o, upd_same, hd⟩, ?_, Reps.grow g _ _ (q1.rep _)⟩⟩)
        rw [repL_len, sizeLine_eq]
        have : k.toNat ≤ 1000 := by omega
        calc xs.length * k.toNat ≤ 1000 * 1000 := Nat.mul_le_mul z3 this
          _ ≤ _ := by decide
      | _ => exact False.elim h
    | _ => cases e <;> exact False.elim h) ha hb
end
end PL

/-! Dicts laid over one another, as plain data. -/
namespace PL
open PySem PySem.Spec L2
def KF (ss : List Str) (f : Str → D) : List (Key × D) := ss.map fun s => (.inr s, f s)
def PF (ss : List Str) (f : Str → D) : List D := ss.map fun s => .tup [.str s, f s]
theorem pairsL_PF (ss : List Str) (f : Str → D) : pairsL (PF ss f) = some (KF ss f) := by
  induction ss with
  | nil => rfl
  | cons s ss ih =>
    show (match keyD (.str s), pairsL (PF ss f) with | some kk, some l => some ((kk, f s) :: l) | _, _ => none) = _
    rw [ih]
    rfl
theorem mergeD_new : ∀ (more acc : List (Key × D)), ((acc ++ more).map (·.1)).Nodup → mergeD acc more = acc ++ more
  | [], acc, _ => (List.append_nil _).symm
  | (k, x) :: r, acc, h => by
    show mergeD (putD acc k x) r = _
    have hk : k ∉ acc.map (·.1) := by
      rw [List.map_append, List.map_cons, List.nodup_append] at h
      exact fun z => h.2.2 k z k List.mem_cons_self rfl
    rw [putD_not hk, mergeD_new r (acc ++ [(k, x)]) (by simpa using h)]
    simp
theorem KF_keys (ss : List Str) (f : Str → D) : (KF ss f).map (·.1) = ss.map .inr := by
  unfold KF
  rw [List.map_map]
  rfl
theorem KF_nodup {ss : List Str} {f : Str → D} (h : ss.Nodup) : ((KF ss f).map (·.1)).Nodup := by
  rw [KF_keys]
  exact List.pairwise_map.mpr (h.imp fun h e => h (Sum.inr.inj e))
theorem dictW_PF {ss : List Str} {f : Str → D} (h : ss.Nodup) : dictW (.tup (PF ss f)) = ret (KF ss f) := by
  show bnd (optW (pairsL (PF ss f))) _ = _
  rw [pairsL_PF]
  show bnd (ret (KF ss f)) _ = _
  rw [bnd_ret, mergeD_new _ [] (by simpa using KF_nodup h)]
  rfl
theorem valD_cons (a : Key) (y : D) (r : List (Key × D)) (k : Key) : valD ((a, y) :: r) k = if a = k then some y else valD r k := by
  unfold valD
  rw [List.find?_cons]
  by_cases h : a = k <;> simp [h]
theorem valD_none {j : List (Key × D)} {k : Key} (h : k ∉ j.map (·.1)) : valD j k = none := by
  induction j with
  | nil => rfl
  | cons p r ih =>
    obtain ⟨a, y⟩ := p
    rw [List.map_cons, List.mem_cons, not_or] at h
    rw [valD_cons, if_neg fun e => h.1 e.symm, ih h.2]
theorem valD_mem {j : List (Key × D)} {k : Key} (h : k ∈ j.map (·.1)) : ∃ x, valD j k = some x := by
  induction j with
  | nil => cases h
  | cons p r ih =>
    obtain ⟨a, y⟩ := p
    rw [valD_cons]
    by_cases e : a = k
    · exact ⟨y, if_pos e⟩
    · rw [if_neg e]
      exact ih ((List.mem_cons.mp h).resolve_left fun z => e z.symm)
theorem valD_set (k : Key) (x : D) : ∀ (j : List (Key × D)) (k' : Key), valD (setK1 k x j) k' = if k' = k then (valD j k).map fun _ => x else valD j k'
  | [], k' => by
    show none = _
    split <;> rfl
  | (a, y) :: r, k' => by
    have ih := valD_set k x r k'
    unfold setK1
    by_cases h : a = k
    · subst h
      rw [if_pos rfl, valD_cons, valD_cons, valD_cons, ih, if_pos rfl]
      by_cases e : k' = a
      · subst e
        rw [if_pos rfl, if_pos rfl]
        rfl
      · rw [if_neg fun z => e z.symm, if_neg e, if_neg e, if_neg fun z => e z.symm]
    · rw [if_neg h, valD_cons, valD_cons, valD_cons, ih, if_neg h]
      by_cases e : a = k'
      · rw [if_pos e, if_pos e, if_neg fun z => h (e.trans z)]
      · rw [if_neg e, if_neg e]
theorem valD_snoc {j : List (Key × D)} {k : Key} {x : D} (h : k ∉ j.map (·.1)) (k' : Key) : valD (j ++ [(k, x)]) k' = if k' = k then some x else valD j k' := by
  induction j with
  | nil =>
    rw [List.nil_append, valD_cons]
    by_cases e : k' = k
    · rw [if_pos e, if_pos e.symm]
    · rw [if_neg e, if_neg fun z => e z.symm]
  | cons p r ih =>
    obtain ⟨a, y⟩ := p
    rw [List.map_cons, List.mem_cons, not_or] at h
    rw [List.cons_append, valD_cons, valD_cons, ih h.2]
    by_cases e : a = k'
    · rw [if_pos e, if_pos e, if_neg fun z => h.1 (e.trans z).symm]
    · rw [if_neg e, if_neg e]
theorem valD_put (j : List (Key × D)) (k : Key) (x : D) (k' : Key) : valD (putD j k x) k' = if k' = k then some x else valD j k' := by
  by_cases h : k ∈ j.map (·.1)
  · rw [putD_has h, valD_set]
    obtain ⟨y, e⟩ := valD_mem h
    rw [e]
    rfl
  · rw [putD_not h, valD_snoc h]
theorem valD_merge : ∀ (b a : List (Key × D)) (k : Key), (b.map (·.1)).Nodup → valD (mergeD a b) k = (valD b k).or (valD a k)
  | [], a, k, _ => rfl
  | (k0, x) :: r, a, k, h => by
    rw [List.map_cons, List.nodup_cons] at h
    show valD (mergeD (putD a k0 x) r) k = _
    rw [valD_merge r _ k h.2, valD_put, valD_cons]
    by_cases e : k = k0
    · subst e
      rw [valD_none h.1, if_pos rfl, if_pos rfl]
      rfl
    · rw [if_neg e, if_neg fun z => e z.symm]
theorem DI.merge {v : D → Bool} : ∀ {b a : List (Key × D)}, DI v a → (∀ kv ∈ b, ∃ s, kv.1 = .inr s ∧ wordB (.str s) = true ∧ v kv.2 = true) → DI v (mergeD a b) ∧ (mergeD a b).length ≤ a.length + b.length
  | [], a, h, _ => ⟨h, Nat.le_refl _⟩
  | (k, x) :: r, a, h, hb => by
    obtain ⟨s, e, hs, hx⟩ := hb (k, x) List.mem_cons_self
    have e : k = .inr s := e
    subst e
    obtain ⟨h1, h2⟩ := DI.merge (a := putD a (.inr s) x) (h.put hs hx) fun kv hk => hb kv (List.mem_cons_of_mem _ hk)
    refine ⟨h1, Nat.le_trans h2 ?_⟩
    have := putD_len a (.inr s) x
    rw [List.length_cons]
    omega
theorem valD_KF (ss : List Str) (f : Str → D) (s : Str) : valD (KF ss f) (.inr s) = if s ∈ ss then some (f s) else none := by
  induction ss with
  | nil => rfl
  | cons a r ih =>
    show valD ((.inr a, f a) :: KF r f) _ = _
    rw [valD_cons, ih]
    by_cases e : a = s
    · subst e
      simp
    · rw [if_neg fun z => e (Sum.inr.inj z)]
      have e' : ¬ s = a := fun z => e z.symm
      simp [List.mem_cons, e']
theorem keysS_KF (ss : List Str) (f : Str → D) : keysS (KF ss f) = ss := by
  unfold keysS KF
  rw [List.map_map]
  exact List.map_id _
theorem DI.kf {v : D → Bool} {ss : List Str} {f : Str → D} (h : ss.Nodup) (hs : ∀ s ∈ ss, wordB (.str s) = true ∧ v (f s) = true) : DI v (KF ss f) :=
  ⟨fun kv hk => by
    obtain ⟨s, h1, rfl⟩ := List.mem_map.mp hk
    exact ⟨s, rfl, hs s h1⟩, KF_nodup h⟩
theorem mem_keysS {v : D → Bool} {j : List (Key × D)} (h : DI v j) (s : Str) : s ∈ keysS j ↔ (valD j (.inr s)).isSome = true := by
  constructor
  · intro hs
    obtain ⟨x, e, _⟩ := valD_some h hs
    rw [e]
    rfl
  · intro hs
    refine Classical.byContradiction fun q => ?_
    have : Sum.inr s ∉ j.map (·.1) := fun z => by
      obtain ⟨kv, hk, e⟩ := List.mem_map.mp z
      exact q (List.mem_map.mpr ⟨kv, hk, by rw [e]; rfl⟩)
    rw [valD_none this] at hs
    cases hs
theorem sortT_congr {a b : List Str} (h : a.Perm b) : sortT a = sortT b :=
  ((sortT_perm a).trans (h.trans (sortT_perm b).symm)).eq_of_pairwise (fun a b _ _ h1 h2 => leS_anti a b h1 h2) (sortT_pw a) (sortT_pw b)
theorem sortT_id {a : List Str} (h : a.Pairwise fun x y => leS x y = true) : sortT a = a :=
  (sortT_perm a).eq_of_pairwise (fun a b _ _ h1 h2 => leS_anti a b h1 h2) (sortT_pw a) h
theorem sortT_nodup {a : List Str} (h : a.Nodup) : (sortT a).Nodup := (sortT_perm a).nodup_iff.mpr h
theorem pairsOf_PF (j : List (Key × D)) : pairsOf j = PF (sortT (keysS j)) (valS j) := rfl
theorem PF_congr {ss : List Str} {f g : Str → D} (h : ∀ s ∈ ss, f s = g s) : PF ss f = PF ss g := List.map_congr_left fun s hs => by rw [h s hs]
theorem pairsOf_congr {v w : D → Bool} {j j' : List (Key × D)} (h : DI v j) (h' : DI w j') (e : ∀ s, valD j (.inr s) = valD j' (.inr s)) : pairsOf j = pairsOf j' := by
  have p : (keysS j).Perm (keysS j') := (List.perm_ext_iff_of_nodup (keysS_nodup h) (keysS_nodup h')).mpr fun s => by rw [mem_keysS h, mem_keysS h', e]
  rw [pairsOf_PF, pairsOf_PF, sortT_congr p]
  exact PF_congr fun s _ => by unfold valS; rw [e]
/-- the dict of a store's pairs -/
def sortK (j : List (Key × D)) : List (Key × D) := KF (sortT (keysS j)) (valS j)
theorem dictW_of {v : D → Bool} {j : List (Key × D)} (h : DI v j) : dictW (.tup (pairsOf j)) = ret (sortK j) := dictW_PF (sortT_nodup (keysS_nodup h))
theorem sortK_val {v : D → Bool} {j : List (Key × D)} (h : DI v j) (s : Str) : valD (sortK j) (.inr s) = valD j (.inr s) := by
  unfold sortK
  rw [valD_KF]
  by_cases q : s ∈ keysS j
  · obtain ⟨x, e, _⟩ := valD_some h q
    rw [if_pos (sortT_mem.mpr q), e]
    unfold valS
    rw [e]
    rfl
  · rw [if_neg fun z => q (sortT_mem.mp z)]
    cases e : valD j (.inr s) with
    | none => rfl
    | some x => exact absurd ((mem_keysS h s).mpr (by rw [e]; rfl)) q
theorem sortK_DI {v : D → Bool} {j : List (Key × D)} (h : DI v j) : DI v (sortK j) :=
  DI.kf (sortT_nodup (keysS_nodup h)) fun s hs => by
    obtain ⟨x, e, hx⟩ := valD_some h (sortT_mem.mp hs)
    refine ⟨keysS_word h (sortT_mem.mp hs), ?_⟩
    unfold valS
    rw [e]
    exact hx
theorem sortK_len (j : List (Key × D)) : (sortK j).length = j.length := by
  unfold sortK KF keysS
  rw [List.length_map, sortT_len, List.length_map]
theorem overW_ok {a b : List (Key × D)} (h : a.length + b.length ≤ 1000000) : overW a b = ret (mergeD (mergeD [] a) b) := grd_pos (by rw [sizeLine_eq]; omega) _
theorem merge_nil {v : D → Bool} {a : List (Key × D)} (h : DI v a) : mergeD [] a = a := mergeD_new _ [] (by simpa using h.2)
end PL

/-! Plain: data without bools and dicts, sorted items, entries dropped, words by letters, stores over known keys. -/
namespace PL
open PySem PySem.Spec L2
/-! ### data that is equal just when it is the same -/
inductive Pl : D → Prop
  | non : Pl .non
  | int (i : Int) : Pl (.int i)
  | str {s : Str} (h : okD (.str s) = true) : Pl (.str s)
  | lst {xs : List D} (h : ∀ x ∈ xs, Pl x) : Pl (.lst xs)
  | tup {xs : List D} (h : ∀ x ∈ xs, Pl x) : Pl (.tup xs)
theorem pys_lay : ∀ {xs : List D}, (∀ x ∈ xs, (py x).canLay0 = true) → PyData.canLayAll0 (pys xs) = true
  | [], _ => by simp [pys, PyData.canLayAll0]
  | x :: xs, h => by
    have := pys_lay (xs := xs) fun y hy => h y (List.mem_cons_of_mem _ hy)
    simp [pys, PyData.canLayAll0, h x List.mem_cons_self, this]
theorem Pl.lay : ∀ {x : D}, Pl x → (py x).canLay0 = true
  | _, .non => by simp [py, PyData.canLay0]
  | _, .int i => by simp [py, PyData.canLay0]
  | _, .str h => okD_lay h
  | _, .lst h => by
    have := pys_lay fun x hx => (h x hx).lay
    simp [py, PyData.canLay0, this]
  | _, .tup h => by
    have := pys_lay fun x hx => (h x hx).lay
    simp [py, PyData.canLay0, this]
theorem eqvs_iff : ∀ {xs ys : List D}, (∀ x ∈ xs, ∀ y ∈ ys, PyData.eqv (py x) (py y) = true ↔ x = y) → (PyData.eqvAll (pys xs) (pys ys) = true ↔ xs = ys)
  | [], [], _ => by simp [pys, PyData.eqvAll]
  | [], _ :: _, _ => by simp [pys, PyData.eqvAll]
  | _ :: _, [], _ => by simp [pys, PyData.eqvAll]
  | x :: xs, y :: ys, h => by
    have ih := eqvs_iff (xs := xs) (ys := ys) fun a ha b hb => h a (List.mem_cons_of_mem _ ha) b (List.mem_cons_of_mem _ hb)
    simp only [pys, PyData.eqvAll, Bool.and_eq_true, ih, h x List.mem_cons_self y List.mem_cons_self, List.cons.injEq]
theorem Pl.eqv_iff : ∀ {x : D}, Pl x → ∀ {y : D}, Pl y → (PyData.eqv (py x) (py y) = true ↔ x = y)
  | _, .non, _, hy => by cases hy <;> simp [py, PyData.eqv]
  | _, .int i, _, hy => by cases hy <;> simp [py, PyData.eqv]
  | _, .str h, _, hy => by cases hy <;> simp [py, PyData.eqv]
  | _, .lst h, _, hy => by
    cases hy with
    | lst h2 =>
      have := eqvs_iff fun x hx y hy => (h x hx).eqv_iff (h2 y hy)
      simp only [py, PyData.eqv, this, D.lst.injEq]
    | _ => simp [py, PyData.eqv]
  | _, .tup h, _, hy => by
    cases hy with
    | tup h2 =>
      have := eqvs_iff fun x hx y hy => (h x hx).eqv_iff (h2 y hy)
      simp only [py, PyData.eqv, this, D.tup.injEq]
    | _ => simp [py, PyData.eqv]
open Classical in
theorem Pl.eqv {x y : D} (hx : Pl x) (hy : Pl y) : PyData.eqv (py x) (py y) = decide (x = y) := by
  have h := hx.eqv_iff hy
  by_cases e : x = y
  · rw [h.mpr e]; exact (decide_eq_true e).symm
  · rw [Bool.eq_false_iff.mpr fun z => e (h.mp z)]; exact (decide_eq_false e).symm
/-- data of which repr and == can speak -/
structure Gd (k : Nat) (x : D) : Prop where
  pl : Pl x
  dp : (py x).depth ≤ k
theorem Gd.ok {k : Nat} {x : D} (h : Gd k x) (hk : k ≤ 63) : okD x = true := by
  unfold okD SeqAt.shaped
  rw [h.pl.lay]
  have := h.dp
  simp
  omega
theorem Gd.up {k j : Nat} {x : D} (h : Gd k x) (hk : k ≤ j) : Gd j x := ⟨h.pl, Nat.le_trans h.dp hk⟩
theorem Gd.tup {k : Nat} {xs : List D} (h : ∀ x ∈ xs, Gd k x) : Gd (k + 1) (.tup xs) :=
  ⟨.tup fun x hx => (h x hx).pl, by simp only [py, PyData.depth]; exact Nat.succ_le_succ (depths_le.mpr fun x hx => (h x hx).dp)⟩
theorem Gd.lst {k : Nat} {xs : List D} (h : ∀ x ∈ xs, Gd k x) : Gd (k + 1) (.lst xs) :=
  ⟨.lst fun x hx => (h x hx).pl, by simp only [py, PyData.depth]; exact Nat.succ_le_succ (depths_le.mpr fun x hx => (h x hx).dp)⟩
theorem Gd.int {k : Nat} {i : Int} : Gd k (.int i) := ⟨.int i, by simp [py, PyData.depth]⟩
theorem Gd.non {k : Nat} : Gd k .non := ⟨.non, by simp [py, PyData.depth]⟩
theorem Gd.str {k : Nat} {s : Str} (h : okD (.str s) = true) : Gd k (.str s) := ⟨.str h, by simp [py, PyData.depth]⟩
open Classical in
theorem eqB_gd {k : Nat} {x y : D} (hx : Gd k x) (hy : Gd k y) (hk : k ≤ 63) : eqB x y = ret (decide (x = y)) := by
  unfold eqB
  rw [grd_pos (.inl ⟨hx.ok hk, hy.ok hk⟩), hx.pl.eqv hy.pl]
open Classical in
theorem neB_gd {k : Nat} {x y : D} (hx : Gd k x) (hy : Gd k y) (hk : k ≤ 63) : neB x y = ret (!decide (x = y)) := by
  unfold neB
  rw [grd_pos (.inl ⟨hx.ok hk, hy.ok hk⟩), hx.pl.eqv hy.pl]
theorem word_ok {s : Str} (h : wordB (.str s) = true) : okD (.str s) = true := by
  have z : Sz 8 0 (.str s) := IsW.ok ⟨s, rfl, h⟩
  cases z.1 with
  | str h => exact h
/-! ### sorted(list(d.items())) -/
def intD0 : D → Int
  | .int i => i
  | _ => 0
theorem numB_int {x : D} (h : numB x = true) : x = .int (intD0 x) := by
  cases x with
  | int i => rfl
  | _ => cases h
/-! ### entries, differences -/
def vg (g : Bool) (y : D) : Bool := (g && isNone y) || numB y
section
variable {v : D → Bool} {a b : List (Key × D)}
theorem sort_over (ha : DI v a) (hb : DI v b) : DI v (mergeD (sortK a) (sortK b)) ∧ (mergeD (sortK a) (sortK b)).length ≤ a.length + b.length ∧ ∀ s, valD (mergeD (sortK a) (sortK b)) (.inr s) = (valD b (.inr s)).or (valD a (.inr s)) := by
  obtain ⟨h1, h2⟩ := DI.merge (sortK_DI ha) (sortK_DI hb).1
  rw [sortK_len, sortK_len] at h2
  exact ⟨h1, h2, fun s => by rw [valD_merge _ _ _ (sortK_DI hb).2, sortK_val hb, sortK_val ha]⟩
theorem merge_facts (ha : DI v a) (hb : DI v b) : DI v (mergeD a b) ∧ (mergeD a b).length ≤ a.length + b.length := DI.merge ha hb.1
end
theorem vg_shape {x : D} (h : vg true x = true) : x = .non ∨ ∃ i, x = .int i ∧ numB (.int i) = true := by
  cases x with
  | non => exact .inl rfl
  | int i => exact .inr ⟨i, rfl, by simpa [vg, isNone] using h⟩
  | _ => simp [vg, isNone, numB] at h
theorem num_vg (x : D) (h : numB x = true) : vg true x = true := by
  unfold vg
  rw [h, Bool.or_true]
theorem pairsOf_KF {ss : List Str} {h : Str → D} (hs : ss.Pairwise fun a b => leS a b = true) : pairsOf (KF ss h) = PF ss h := by
  rw [pairsOf_PF, keysS_KF, sortT_id hs]
  exact PF_congr fun s hs => by unfold valS; rw [valD_KF, if_pos hs]; rfl
section
variable {f g : List (Key × D)}
end
theorem ent_sz (x : D) (h : vg true x = true) : Sz 0 0 x := by
  rcases vg_shape h with rfl | ⟨i, rfl, hi⟩
  · exact .non
  · exact numB_sz _ hi
theorem st_sz {j : List (Key × D)} (h : DI (vg true) j) (hl : j.length ≤ 32) : Sz 400 2 (.tup (pairsOf j)) := by
  obtain ⟨h1, h2⟩ := asc_sz ent_sz (pairsOf_asc h)
  rw [pairsOf_len] at h2
  exact .tup h1 (by omega)
/-! ### d.pop(k), k in d -/
theorem inW_str (j : List (Key × D)) (s : Str) : inW j (.str s) = ret (valD j (.inr s)).isSome := rfl
/-! ### stores over known keys -/
theorem nodup_len {α : Type} [DecidableEq α] : ∀ {l m : List α}, l.Nodup → (∀ x ∈ l, x ∈ m) → l.length ≤ m.length
  | [], _, _, _ => Nat.zero_le _
  | x :: l, m, h, hm => by
    have h2 := List.nodup_cons.mp h
    have hx : x ∈ m := hm x List.mem_cons_self
    have ih := nodup_len (l := l) (m := m.erase x) h2.2 fun y hy => (List.mem_erase_of_ne fun e : y = x => h2.1 (by rw [← e]; exact hy)).mpr (hm y (List.mem_cons_of_mem _ hy))
    rw [List.length_erase_of_mem hx] at ih
    have : 0 < m.length := List.length_pos_of_mem hx
    rw [List.length_cons]
    omega
def StK (K : List Str) (j : List (Key × D)) : Prop := DI numB j ∧ ∀ s ∈ keysS j, s ∈ K
def St (K : List Str) (d : D) : Prop := ∃ j, StK K j ∧ d = .tup (pairsOf j)
theorem StK.len {K : List Str} {j : List (Key × D)} (h : StK K j) : j.length ≤ K.length := by
  have := nodup_len (keysS_nodup h.1) h.2
  unfold keysS at this
  rwa [List.length_map] at this
theorem pairsOf_gd {j : List (Key × D)} (h : DI (vg true) j) : Gd 2 (.tup (pairsOf j)) := by
  refine .tup fun x hx => ?_
  obtain ⟨s, hs, rfl⟩ := List.mem_map.mp hx
  refine .tup fun y hy => ?_
  rcases List.mem_cons.mp hy with rfl | hy
  · exact .str (word_ok (keysS_word h (sortT_mem.mp hs)))
  · rw [List.mem_singleton.mp hy]
    obtain ⟨y, e, hy⟩ := valD_some h (sortT_mem.mp hs)
    have ev : valS j s = y := by unfold valS; rw [e]; rfl
    rw [ev]
    unfold vg at hy
    cases y with
    | non => exact .non
    | int i => exact .int
    | _ => simp [isNone, numB] at hy
theorem St.gd {K : List Str} {d : D} (h : St K d) : Gd 2 d := by
  obtain ⟨j, hj, rfl⟩ := h
  exact pairsOf_gd (hj.1.mono num_vg)
/-! ### loops that gather -/
theorem app_run {α γ : Type} {bd : α → List D → W (Step (List D) γ)} {k : List D → W γ} {lab : α → D} : ∀ {xs : List α} {j : List D}, (∀ x ∈ xs, ∀ j, bd x j = roomL j (ret (.go (j ++ [lab x])))) → j.length + xs.length < 1000000 → forT bd k xs j = k (j ++ xs.map lab)
  | [], j, _, _ => by rw [List.map_nil, List.append_nil]; rfl
  | x :: xs, j, h, hl => by
    rw [List.length_cons] at hl
    show bnd (bd x j) _ = _
    rw [h x List.mem_cons_self, room_pos (by omega), bnd_ret]
    show forT bd k xs (j ++ [lab x]) = _
    rw [app_run (fun y hy => h y (List.mem_cons_of_mem _ hy)) (by rw [List.length_append, List.length_singleton]; omega), List.map_cons, List.append_assoc]
    rfl
/-! ### letters -/
def chS (k : Nat) : Str := ⟨#[k]⟩
theorem abc_ix {i : Int} (h0 : 0 ≤ i) (h1 : i < 26) : ixD (.str (Str.ofString "abcdefghijklmnopqrstuvwxyz")) (.int i) = ret (.str (chS (97 + i.toNat))) := by
  obtain ⟨n, rfl⟩ := Int.eq_ofNat_of_zero_le h0
  have hn : n < 26 := by omega
  have e : ∀ n < 26, (Str.ofString "abcdefghijklmnopqrstuvwxyz").cps.toList[n]? = some (97 + n) := by
    rw [abc]
    decide
  exact ix_s (atI_nat (e n hn))
def strL (ks : List Nat) : Str := ⟨ks.toArray⟩
theorem strL_len (ks : List Nat) : (strL ks).length = ks.length := List.size_toArray
theorem chS_strL (k : Nat) : chS k = strL [k] := rfl
theorem str_app (a b : List Nat) : strL a ++ strL b = strL (a ++ b) := str_ext (by
  show ((strL a).cps ++ (strL b).cps).toList = a ++ b
  rw [Array.toList_append]
  rfl)
theorem addD_strL {a b : List Nat} (h : a.length + b.length ≤ 1000000) : addD (.str (strL a)) (.str (strL b)) = ret (.str (strL (a ++ b))) := by
  show grd _ (ret (D.str (strL a ++ strL b))) = _
  rw [str_app]
  exact grd_pos (by rw [strL_len, strL_len, sizeLine_eq]; omega) _
theorem strL_inj {a b : List Nat} (h : strL a = strL b) : a = b := by
  have := congrArg (fun s : Str => s.cps.toList) h
  exact this
theorem wordB_strL (ks : List Nat) (h1 : 1 ≤ ks.length) (h2 : ks.length ≤ 8) (h : ∀ k ∈ ks, lower k = true) : wordB (.str (strL ks)) = true := wordB_signs ks h1 h2 h
theorem letter_low {i : Int} (h0 : 0 ≤ i) (h1 : i < 26) : lower (97 + i.toNat) = true := decide_eq_true (by omega)
/-! ### the words of commands -/
abbrev wSet : Str := Str.ofString "set"
abbrev wDel : Str := Str.ofString "del"
abbrev wMark : Str := Str.ofString "mark"
abbrev wBack : Str := Str.ofString "back"
abbrev wKeep : Str := Str.ofString "keep"
theorem in_two (a b c : Str) : inFlat false (.str a) (.tup [.str b, .str c]) = ret (.bl (b == a || c == a)) := by
  show grd _ _ = _
  rw [grd_pos ⟨rfl, rfl⟩]
  simp [scEq]
theorem ww {a b : Str} (h : a ≠ b := by decide +kernel) : (a == b) = false := beq_false_of_ne h
theorem w_sm : (wSet == wMark) = false := ww
theorem w_sb : (wSet == wBack) = false := ww
theorem w_sk : (wSet == wKeep) = false := ww
theorem w_ds : (wDel == wSet) = false := ww
theorem w_dm : (wDel == wMark) = false := ww
theorem w_db : (wDel == wBack) = false := ww
theorem w_dk : (wDel == wKeep) = false := ww
theorem w_ms : (wMark == wSet) = false := ww
theorem w_bs : (wBack == wSet) = false := ww
theorem w_bm : (wBack == wMark) = false := ww
theorem w_ks : (wKeep == wSet) = false := ww
theorem w_km : (wKeep == wMark) = false := ww
theorem w_kb : (wKeep == wBack) = false := ww
theorem intI_int (i : Int) : intI (.int i) = ret i := rfl
theorem lenI_tup (xs : List D) : lenI (.tup xs) = ret (xs.length : Int) := rfl
theorem lenI_lst (xs : List D) : lenI (.lst xs) = ret (xs.length : Int) := rfl
theorem unp2_tup (a b : D) : unp2 (.tup [a, b]) = ret (a, b) := rfl
end PL

namespace Q24
open PySem PySem.Spec L2 PL
def errT : ETab := [(Str.ofString "InvalidScript", [Str.ofString "InvalidScript", Str.ofString "RewindError", Str.ofString "ValueError", Str.ofString "Exception", Str.ofString "BaseException", Str.ofString "object"]), (Str.ofString "InvalidPlan", [Str.ofString "InvalidPlan", Str.ofString "RewindError", Str.ofString "ValueError", Str.ofString "Exception", Str.ofString "BaseException", Str.ofString "object"]), (Str.ofString "InvalidTimes", [Str.ofString "InvalidTimes", Str.ofString "RewindError", Str.ofString "ValueError", Str.ofString "Exception", Str.ofString "BaseException", Str.ofString "object"]), (Str.ofString "TooLong", [Str.ofString "TooLong", Str.ofString "OverflowError", Str.ofString "ArithmeticError", Str.ofString "Exception", Str.ofString "BaseException", Str.ofString "object"])]
@[irreducible] def d_is_integer (value : D) : W D :=
    andD (ret (.bl (isT .int value))) (ret (.bl (!(isT .bool value))))
def m_is_integer : List SV → W D
  | [.d value] => d_is_integer value
  | _ => stuck
@[irreducible] def d_is_between (value : D) (least : D) (most : D) : W D :=
    andD (cl (d_is_integer value)) (thenB (leD least value) (leD value most))
def m_is_between : List SV → W D
  | [.d value, .d least, .d most] => d_is_between value least most
  | _ => stuck
@[irreducible] def d_is_word (value : D) : W D :=
    bnd (orB (ret (!(isT .str value))) (bnd (lenI value) fun n => bnd (thenB (ret (.bl (decide (1 ≤ n)))) (ret (.bl (decide (n ≤ 8))))) fun k => bnd (blB k) fun k1 => ret (!k1))) fun kk => if kk = true then
    ret (.bl false)
    else
    bnd (codesD value) fun ks => bnd (mapP (fun sign => inStr false (chD sign) (.str (Str.ofString "abcdefghijklmnopqrstuvwxyz"))) ks) fun xs => allD (.lst xs)
def m_is_word : List SV → W D
  | [.d value] => d_is_word value
  | _ => stuck
@[irreducible] def d_is_value (value : D) : W D :=
    cl (d_is_between value (.int (-1000000000000000000)) (.int 1000000000000000000))
def m_is_value : List SV → W D
  | [.d value] => d_is_value value
  | _ => stuck
@[irreducible] def d_are_pairs (value : D) : W D :=
    if (!(isT .tup value)) = true then
    ret (.bl false)
    else
    bnd (items value) fun xs => forT (fun pair j =>
    bnd (orB (ret (!(isT .tup pair))) (orB (bnd (lenI pair) fun n => ret (!decide (n = 2))) (orB (bnd (ixD pair (.int 0)) fun y => bnd (cl (d_is_word y)) fun y1 => bnd (tru y1) fun k => ret (!k)) (bnd (ixD pair (.int 0)) fun y2 => bnd (leD y2 j) fun k1 => blB k1)))) fun kk => if kk = true then
    ret (.out (.bl false))
    else
    bnd (ixD pair (.int 0)) fun last =>
    ret (.go last)) (fun j1 =>
    ret (.bl true)) xs (.str (Str.ofString ""))
def m_are_pairs : List SV → W D
  | [.d value] => d_are_pairs value
  | _ => stuck
@[irreducible] def d_is_map (value : D) : W D :=
    andD (cl (d_are_pairs value)) (bnd (items value) fun xs => bnd (mapP (fun pair => orD (bnd (ixD pair (.int 1)) fun y1 => ret (.bl (isNone y1))) (bnd (ixD pair (.int 1)) fun y2 => cl (d_is_value y2))) xs) fun xs1 => allD (.lst xs1))
def m_is_map : List SV → W D
  | [.d value] => d_is_map value
  | _ => stuck
@[irreducible] def d_pairs_of (entries : D) : W D :=
    bnd (keysD entries) fun xs => bnd (sortW (.lst xs)) fun xs1 => bnd (mapP (fun key => bnd (dgetD entries key) fun y => ret (.tup [key, y])) xs1) fun xs2 => ret (.tup xs2)
def m_pairs_of : List SV → W D
  | [.d entries] => d_pairs_of entries
  | _ => stuck
@[irreducible] def d_overlaid (lower : D) (upper : D) : W D :=
    bnd (dictW lower) fun kvs => bnd (dictW upper) fun kvs1 => bnd (overW kvs kvs1) fun both => cl (d_pairs_of (.dic both))
def m_overlaid : List SV → W D
  | [.d lower, .d upper] => d_overlaid lower upper
  | _ => stuck
@[irreducible] def d_is_command (value : D) : W D :=
    bnd (orB (ret (!(isT .tup value))) (orB (bnd (lenI value) fun n => ret (decide (n < 2))) (orB (bnd (ixD value (.int 0)) fun y => ret (!(isT .str y))) (bnd (ixD value (.int 1)) fun y1 => bnd (cl (d_is_word y1)) fun y2 => bnd (tru y2) fun k => ret (!k))))) fun kk => if kk = true then
    ret (.bl false)
    else
    bnd (bnd (ixD value (.int 0)) fun y3 => eqB y3 (.str (Str.ofString "set"))) fun kk => if kk = true then
    andD (bnd (lenI value) fun n1 => ret (.bl (decide (n1 = 3)))) (bnd (ixD value (.int 2)) fun y4 => cl (d_is_value y4))
    else
    andD (bnd (lenI value) fun n2 => ret (.bl (decide (n2 = 2)))) (bnd (ixD value (.int 0)) fun y6 => inFlat false y6 (.tup [(.str (Str.ofString "del")), (.str (Str.ofString "mark")), (.str (Str.ofString "back")), (.str (Str.ofString "keep"))]))
def m_is_command : List SV → W D
  | [.d value] => d_is_command value
  | _ => stuck
@[irreducible] def d_is_write (command : D) : W D :=
    bnd (ixD command (.int 0)) fun y => inFlat false y (.tup [(.str (Str.ofString "set")), (.str (Str.ofString "del"))])
def m_is_write : List SV → W D
  | [.d command] => d_is_write command
  | _ => stuck
@[irreducible] def d_entry_of (command : D) : W D :=
    bnd (ixD command (.int 0)) fun y => bnd (eqB y (.str (Str.ofString "set"))) fun k => if k = true then ixD command (.int 2) else ret .non
def m_entry_of : List SV → W D
  | [.d command] => d_entry_of command
  | _ => stuck
@[irreducible] def d_first_invalid (value : D) : W D :=
    bnd (orB (ret (!(isA [.tup, .lst] value))) (bnd (lenI value) fun n => ret (decide (60 < n)))) fun kk => if kk = true then
    ret (.tup [.non])
    else
    bnd (enumI value) fun es => forT (fun p j =>
    bnd (bnd (cl (d_is_command p.2)) fun y => bnd (tru y) fun k1 => ret (!k1)) fun kk => if kk = true then
    ret (.out (.tup [(.int p.1)]))
    else
    ret (.go ())) (fun j1 =>
    ret (.tup [])) es ()
def m_first_invalid : List SV → W D
  | [.d value] => d_first_invalid value
  | _ => stuck
@[irreducible] def d_need_script (value : D) : W D :=
    bnd (cl (d_first_invalid value)) fun wrong =>
    bnd (neB wrong (.tup [])) fun kk => if kk = true then
    bnd (ixD wrong (.int 0)) fun d => rse (Str.ofString "InvalidScript", [(Str.ofString "index", d)])
    else
    ret .non
def m_need_script : List SV → W D
  | [.d value] => d_need_script value
  | _ => stuck
@[irreducible] def d_places_in (pattern : D) (names : D) : W D :=
    bnd (enumI names) fun es => forT (fun p j =>
    bnd (bnd (lenI pattern) fun n => ret (decide ((j.length : Int) = n))) fun kk => if kk = true then
    ret (.out (.lst j))
    else
    bnd (bnd (ixD pattern (.int (j.length : Int))) fun y => eqB p.2 y) fun kk => if kk = true then
    roomL j (
    ret (.go (j ++ [(.int p.1)])))
    else
    ret (.go j)) (fun j1 =>
    ret (.lst j1)) es []
def m_places_in : List SV → W D
  | [.d pattern, .d names] => d_places_in pattern names
  | _ => stuck
@[irreducible] def d_nearest_place (pile : D) (name : D) : W D :=
    bnd (bnd (lenI pile) fun n => rngM (n - 1) (-1)) fun isV => forT (fun place j =>
    bnd (bnd (ixD pile (.int place)) fun y => bnd (ixD y (.int 0)) fun y1 => eqB y1 name) fun kk => if kk = true then
    ret (.out (.int place))
    else
    ret (.go ())) (fun j1 =>
    ret .non) isV ()
def m_nearest_place : List SV → W D
  | [.d pile, .d name] => d_nearest_place pile name
  | _ => stuck
@[irreducible] def d_extended (parts : D) (command : D) : W D :=
    bnd (unp4 parts) fun p =>
    bnd (bnd (cl (d_is_write command)) fun y => tru y) fun kk => if kk = true then
    bnd (ixD command (.int 1)) fun y1 => bnd (cl (d_entry_of command)) fun y2 => bnd (cl (d_overlaid p.2.2.2 (.tup [(.tup [y1, y2])]))) fun y3 => ret (.tup [p.1, p.2.1, p.2.2.1, y3])
    else
    bnd (ixD command (.int 1)) fun name =>
    bnd (bnd (ixD command (.int 0)) fun y5 => eqB y5 (.str (Str.ofString "mark"))) fun kk => if kk = true then
    bnd (addD p.2.2.1 (.tup [(.tup [name, p.2.2.2])])) fun c => ret (.tup [p.1, p.2.1, c, p.2.2.2])
    else
    bnd (cl (d_nearest_place p.2.2.1 name)) fun place =>
    bnd (bnd (ixD command (.int 0)) fun y7 => eqB y7 (.str (Str.ofString "back"))) fun kk => if kk = true then
    if (isNone place) = true then
    bnd (addD p.1 (.tup [name])) fun c1 => bnd (lenI p.1) fun n => ret (.tup [c1, (.int (n + 1)), (.tup [(.tup [name, (.tup [])])]), (.tup [])])
    else
    bnd (intI place) fun i => bnd (slD p.2.2.1 none (some (i + 1))) fun s => bnd (intI place) fun i1 => bnd (ixD p.2.2.1 (.int i1)) fun y8 => bnd (ixD y8 (.int 1)) fun y9 => ret (.tup [p.1, p.2.1, s, y9])
    else
    if (isNone place) = true then
    bnd (addD p.1 (.tup [name])) fun c2 => ret (.tup [c2, p.2.1, (.tup []), p.2.2.2])
    else
    bnd (intI place) fun i2 => bnd (slD p.2.2.1 none (some i2)) fun s1 => ret (.tup [p.1, p.2.1, s1, p.2.2.2])
def m_extended : List SV → W D
  | [.d parts, .d command] => d_extended parts command
  | _ => stuck
@[irreducible] def d_own_places (pattern : D) (frames : D) : W D :=
    bnd (bnd (lenI frames) fun n => ret (n - 1)) fun last =>
    bnd (revD frames) fun s => bnd (items s) fun xs => bnd (mapP (fun frame => ixD frame (.int 0)) xs) fun xs1 => bnd (cl (d_places_in pattern (.lst xs1))) fun y1 => bnd (items y1) fun xs2 => bnd (mapP (fun place => bnd (intI place) fun i => ret (.int (last - i))) xs2) fun xs3 => ret (.lst xs3)
def m_own_places : List SV → W D
  | [.d pattern, .d frames] => d_own_places pattern frames
  | _ => stuck
@[irreducible] def d_inner_map (parts : D) (places : D) (source : D) : W D :=
    bnd (eqB source (.int 0)) fun kk => if kk = true then
    ixD parts (.int 3)
    else
    bnd (intI source) fun i => bnd (lenI places) fun n => if (decide (i ≤ n)) = true then bnd (ixD parts (.int 2)) fun y1 => bnd (intI source) fun i1 => bnd (ixD places (.int (i1 - 1))) fun y2 => bnd (intI y2) fun i2 => bnd (ixD y1 (.int i2)) fun y3 => ixD y3 (.int 1) else ret (.tup [])
def m_inner_map : List SV → W D
  | [.d parts, .d places, .d source] => d_inner_map parts places source
  | _ => stuck
@[irreducible] def d_frames_over (inner : D) (frames : D) : W D :=
    bnd (items frames) fun xs => bnd (fewN xs.length (quiet (compP (fun x => bnd (unp2 x) fun p => bnd (bnd (cl (d_overlaid inner p.2)) fun y => ret (.tup [p.1, y])) fun y => ret (some y)) xs))) fun xs1 => ret (.tup xs1)
def m_frames_over : List SV → W D
  | [.d inner, .d frames] => d_frames_over inner frames
  | _ => stuck
@[irreducible] def d_composed (first : D) (second : D) : W D :=
    bnd (unp4 first) fun p =>
    bnd (bnd (ixD second (.int 0)) fun y => cl (d_own_places y p.2.2.1)) fun places =>
    bnd (bnd (ixD second (.int 1)) fun y2 => cl (d_inner_map first places y2)) fun inner =>
    bnd (bnd (ixD second (.int 2)) fun y4 => cl (d_frames_over inner y4)) fun added =>
    bnd (bnd (ixD second (.int 3)) fun y6 => cl (d_overlaid inner y6)) fun final =>
    bnd (lenI places) fun many =>
    bnd (bnd (ixD second (.int 0)) fun y8 => bnd (lenI y8) fun n1 => ret (decide (many = n1))) fun kk => if kk = true then
    bnd (if (decide (many = 0)) = true then ret p.2.2.1 else bnd (ixD places (.int (-1))) fun y9 => bnd (intI y9) fun i => slD p.2.2.1 none (some i)) fun below =>
    bnd (addD below added) fun c => ret (.tup [p.1, p.2.1, c, final])
    else
    bnd (bnd (ixD second (.int 1)) fun y10 => bnd (intI y10) fun i1 => ret (decide (many < i1))) fun kk => bnd (if kk = true then
    bnd (bnd (lenI p.1) fun n2 => bnd (ixD second (.int 1)) fun y11 => bnd (intI y11) fun i2 => ret ((n2 + i2) - many)) fun source =>
    ret (.int source)
    else
    ret p.2.1) fun j =>
    bnd (ixD second (.int 0)) fun y12 => bnd (slD y12 (some many) none) fun s1 => bnd (addD p.1 s1) fun c1 => ret (.tup [c1, j, added, final])
def m_composed : List SV → W D
  | [.d first, .d second] => d_composed first second
  | _ => stuck
@[irreducible] def d_is_frame (value : D) : W D :=
    andD (ret (.bl (isT .tup value))) (andD (bnd (lenI value) fun n => ret (.bl (decide (n = 2)))) (andD (bnd (ixD value (.int 0)) fun y => cl (d_is_word y)) (bnd (ixD value (.int 1)) fun y2 => cl (d_is_map y2))))
def m_is_frame : List SV → W D
  | [.d value] => d_is_frame value
  | _ => stuck
@[irreducible] def d_are_nested (maps : D) : W D :=
    bnd (bnd (slD maps (some 1) none) fun s => zipD maps s) fun zs => forT (fun p j =>
    bnd (dictW p.2) fun known =>
    bnd (bnd (items p.1) fun xs => bnd (fewN xs.length (quiet (compP (fun x => bnd (unp2 x) fun p1 => bnd (bnd (inW known p1.1) fun k => ret (.bl k)) fun y => ret (some y)) xs))) fun xs1 => bnd (allD (.lst xs1)) fun y => bnd (tru y) fun k1 => ret (!k1)) fun kk => if kk = true then
    ret (.out (.bl false))
    else
    ret (.go ())) (fun j1 =>
    ret (.bl true)) zs ()
def m_are_nested : List SV → W D
  | [.d maps] => d_are_nested maps
  | _ => stuck
@[irreducible] def d_are_parts (pattern : D) (source : D) (frames : D) (writes : D) : W D :=
    bnd (orB (ret (!(isT .tup pattern))) (bnd (items pattern) fun xs => bnd (mapP (fun name => cl (d_is_word name)) xs) fun xs1 => bnd (allD (.lst xs1)) fun y1 => bnd (tru y1) fun k => ret (!k))) fun kk => if kk = true then
    ret (.bl false)
    else
    bnd (orB (bnd (lenI pattern) fun n => bnd (cl (d_is_between source (.int 0) (.int n))) fun y2 => bnd (tru y2) fun k2 => ret (!k2)) (orB (ret (!(isT .tup frames))) (bnd (cl (d_is_map writes)) fun y3 => bnd (tru y3) fun k3 => ret (!k3)))) fun kk => if kk = true then
    ret (.bl false)
    else
    andD (bnd (items frames) fun xs2 => bnd (mapP (fun frame => cl (d_is_frame frame)) xs2) fun xs3 => allD (.lst xs3)) (bnd (items frames) fun xs4 => bnd (mapP (fun frame1 => ixD frame1 (.int 1)) xs4) fun xs5 => bnd (addL xs5 [writes]) fun c => cl (d_are_nested (.lst c)))
def m_are_parts : List SV → W D
  | [.d pattern, .d source, .d frames, .d writes] => d_are_parts pattern source frames writes
  | _ => stuck
@[irreducible] def d_Plan_init (pattern : D) (source : D) (frames : D) (writes : D) : W D :=
    bnd (bnd (bnd (cl (d_are_parts pattern source frames writes)) fun y => bnd (tru y) fun k => ret (!k)) fun b => if b = true then rse (Str.ofString "InvalidPlan", []) else ret ()) fun _ => ret (.tup [pattern, source, frames, writes])
def m_Plan_init : List SV → W D
  | [.d pattern, .d source, .d frames, .d writes] => d_Plan_init pattern source frames writes
  | _ => stuck
@[irreducible] def d_Plan_of (commands : D) : W D :=
    bnd (cl (d_need_script commands)) fun _ =>
    bnd (items commands) fun xs => forT (fun command j =>
    bnd (cl (d_extended j command)) fun parts =>
    ret (.go parts)) (fun j1 =>
    bnd (ixD j1 (.int 0)) fun y2 => bnd (ixD j1 (.int 1)) fun y3 => bnd (ixD j1 (.int 2)) fun y4 => bnd (ixD j1 (.int 3)) fun y5 => bnd (cl (d_Plan_init y2 y3 y4 y5)) fun d => ret (.ins (Str.ofString "Plan") (Str.ofString "own_parts") d)) xs (.tup [(.tup []), (.int 0), (.tup []), (.tup [])])
def m_Plan_of : List SV → W D
  | [.d commands] => d_Plan_of commands
  | _ => stuck
def mc_Plan_of (C : Addr) : List SV → W D
  | .o a :: args => grd (a = C) (m_Plan_of args)
  | _ => stuck
theorem mc_Plan_of_eq (C : Addr) (args : List SV) : mc_Plan_of C (.o C :: args) = m_Plan_of args := grd_pos rfl _
@[irreducible] def d_Plan_pattern (self : D) : W D :=
    bnd (fldD (Str.ofString "own_parts") self) fun own => ixD own (.int 0)
def m_Plan_pattern : List SV → W D
  | [.d self] => d_Plan_pattern self
  | _ => stuck
@[irreducible] def d_Plan_source (self : D) : W D :=
    bnd (fldD (Str.ofString "own_parts") self) fun own => ixD own (.int 1)
def m_Plan_source : List SV → W D
  | [.d self] => d_Plan_source self
  | _ => stuck
@[irreducible] def d_Plan_frames (self : D) : W D :=
    bnd (fldD (Str.ofString "own_parts") self) fun own => ixD own (.int 2)
def m_Plan_frames : List SV → W D
  | [.d self] => d_Plan_frames self
  | _ => stuck
@[irreducible] def d_Plan_writes (self : D) : W D :=
    bnd (fldD (Str.ofString "own_parts") self) fun own => ixD own (.int 3)
def m_Plan_writes : List SV → W D
  | [.d self] => d_Plan_writes self
  | _ => stuck
@[irreducible] def d_Plan_mul (self : D) (other : D) : W D :=
    bnd (bnd (insIs (Str.ofString "Plan") (Str.ofString "own_parts") other (ret (.bl true))) fun z => bnd (tru z) fun k => ret (!k)) fun kk => if kk = true then
    stuck
    else
    bnd (bnd (fldD (Str.ofString "own_parts") self) fun own => bnd (fldD (Str.ofString "own_parts") other) fun own1 => cl (d_composed own own1)) fun parts =>
    bnd (ixD parts (.int 0)) fun y2 => bnd (ixD parts (.int 1)) fun y3 => bnd (ixD parts (.int 2)) fun y4 => bnd (ixD parts (.int 3)) fun y5 => bnd (cl (d_Plan_init y2 y3 y4 y5)) fun d => ret (.ins (Str.ofString "Plan") (Str.ofString "own_parts") d)
def m_Plan_mul : List SV → W D
  | [.d self, .d other] => d_Plan_mul self other
  | _ => stuck
@[irreducible] def d_Plan_eq (self : D) (other : D) : W D :=
    andD (insIs (Str.ofString "Plan") (Str.ofString "own_parts") other (ret (.bl true))) (bnd (fldD (Str.ofString "own_parts") self) fun own => bnd (fldD (Str.ofString "own_parts") other) fun own1 => bnd (eqB own own1) fun k => ret (.bl k))
def m_Plan_eq : List SV → W D
  | [.d self, .d other] => d_Plan_eq self other
  | _ => stuck
@[irreducible] def d_own_matches (plan : D) : W D :=
    bnd (insIs (Str.ofString "Plan") (Str.ofString "own_parts") plan (quiet (cl (d_Plan_pattern plan)))) fun pattern => bnd (insIs (Str.ofString "Plan") (Str.ofString "own_parts") plan (quiet (cl (d_Plan_frames plan)))) fun frames => bnd (cl (d_own_places pattern frames)) fun y => bnd (lenI y) fun n => ret (.int n)
def m_own_matches : List SV → W D
  | [.d plan] => d_own_matches plan
  | _ => stuck
@[irreducible] def d_need_times (times : D) : W D :=
    bnd (bnd (cl (d_is_between times (.int 0) (.int 100000000000000000000000000000000000000000000000000))) fun y => bnd (tru y) fun k => ret (!k)) fun kk => if kk = true then
    bnd (ret times) fun d => rse (Str.ofString "InvalidTimes", [(Str.ofString "number", d)])
    else
    ret .non
def m_need_times : List SV → W D
  | [.d times] => d_need_times times
  | _ => stuck
@[irreducible] def d_frames_kept (plan : D) (places : D) : W D :=
    bnd (bnd (lenI places) fun n => bnd (insIs (Str.ofString "Plan") (Str.ofString "own_parts") plan (quiet (cl (d_Plan_pattern plan)))) fun pattern => bnd (lenI pattern) fun n1 => ret (decide (n < n1))) fun kk => if kk = true then
    ret (.tup [])
    else
    bnd (lenI places) fun n2 => if (decide (n2 = 0)) = true then insIs (Str.ofString "Plan") (Str.ofString "own_parts") plan (quiet (cl (d_Plan_frames plan))) else bnd (insIs (Str.ofString "Plan") (Str.ofString "own_parts") plan (quiet (cl (d_Plan_frames plan)))) fun frames1 => bnd (ixD places (.int (-1))) fun y => bnd (intI y) fun i => slD frames1 none (some i)
def m_frames_kept : List SV → W D
  | [.d plan, .d places] => d_frames_kept plan places
  | _ => stuck
@[irreducible] def d_inner_of (plan : D) (places : D) : W D :=
    bnd (insIs (Str.ofString "Plan") (Str.ofString "own_parts") plan (quiet (cl (d_Plan_pattern plan)))) fun pattern => bnd (insIs (Str.ofString "Plan") (Str.ofString "own_parts") plan (quiet (cl (d_Plan_source plan)))) fun source => bnd (insIs (Str.ofString "Plan") (Str.ofString "own_parts") plan (quiet (cl (d_Plan_frames plan)))) fun frames => bnd (insIs (Str.ofString "Plan") (Str.ofString "own_parts") plan (quiet (cl (d_Plan_writes plan)))) fun writes => bnd (insIs (Str.ofString "Plan") (Str.ofString "own_parts") plan (quiet (cl (d_Plan_source plan)))) fun source1 => cl (d_inner_map (.tup [pattern, source, frames, writes]) places source1)
def m_inner_of : List SV → W D
  | [.d plan, .d places] => d_inner_of plan places
  | _ => stuck
@[irreducible] def d_power (plan : D) (times : D) : W D :=
    bnd (cl (d_need_times times)) fun _ =>
    bnd (eqB times (.int 0)) fun kk => if kk = true then
    newK m_Plan_init (Str.ofString "Plan") (Str.ofString "own_parts") [.d (.tup []), .d (.int 0), .d (.tup []), .d (.tup [])]
    else
    bnd (bnd (insIs (Str.ofString "Plan") (Str.ofString "own_parts") plan (quiet (cl (d_Plan_pattern plan)))) fun pattern => bnd (insIs (Str.ofString "Plan") (Str.ofString "own_parts") plan (quiet (cl (d_Plan_frames plan)))) fun frames => cl (d_own_places pattern frames)) fun places =>
    bnd (cl (d_frames_kept plan places)) fun kept =>
    bnd (bnd (insIs (Str.ofString "Plan") (Str.ofString "own_parts") plan (quiet (cl (d_Plan_pattern plan)))) fun pattern1 => bnd (lenI places) fun n => slD pattern1 (some n) none) fun more =>
    bnd (bnd (insIs (Str.ofString "Plan") (Str.ofString "own_parts") plan (quiet (cl (d_Plan_pattern plan)))) fun pattern2 => bnd (lenI pattern2) fun n1 => bnd (lenI more) fun n2 => bnd (intI times) fun i => bnd (mulI n2 (i - 1)) fun i1 => bnd (insIs (Str.ofString "Plan") (Str.ofString "own_parts") plan (quiet (cl (d_Plan_frames plan)))) fun frames1 => bnd (lenI frames1) fun n3 => bnd (lenI kept) fun n4 => bnd (intI times) fun i2 => bnd (mulI n4 (i2 - 1)) fun i3 => ret ((n1 + i1), (n3 + i3))) fun p =>
    if (decide (400 < (max2 p.1 p.2))) = true then
    bnd (ret (.int 400)) fun d => rse (Str.ofString "TooLong", [(Str.ofString "most", d)])
    else
    bnd (eqB times (.int 1)) fun kk => if kk = true then
    ret plan
    else
    bnd (cl (d_inner_of plan places)) fun inner =>
    bnd (bnd (insIs (Str.ofString "Plan") (Str.ofString "own_parts") plan (quiet (cl (d_Plan_frames plan)))) fun frames2 => bnd (cl (d_frames_over inner frames2)) fun y5 => bnd (insIs (Str.ofString "Plan") (Str.ofString "own_parts") plan (quiet (cl (d_Plan_writes plan)))) fun writes => bnd (cl (d_overlaid inner writes)) fun y6 => ret (y5, y6)) fun p1 =>
    bnd (bnd (lenI more) fun n5 => ret (decide (n5 = 0))) fun kk => if kk = true then
    bnd (bnd (neB kept (.tup [])) fun k2 => if k2 = true then bnd (cl (d_frames_over inner kept)) fun y7 => bnd (intI times) fun i4 => repT y7 (.int (i4 - 2)) else ret (.tup [])) fun copies =>
    bnd (insIs (Str.ofString "Plan") (Str.ofString "own_parts") plan (quiet (cl (d_Plan_pattern plan)))) fun pattern3 => bnd (insIs (Str.ofString "Plan") (Str.ofString "own_parts") plan (quiet (cl (d_Plan_source plan)))) fun source => bnd (addD kept copies) fun c1 => bnd (addD c1 p1.1) fun c2 => bnd (cl (d_Plan_init pattern3 source c2 p1.2)) fun d => ret (.ins (Str.ofString "Plan") (Str.ofString "own_parts") d)
    else
    bnd (insIs (Str.ofString "Plan") (Str.ofString "own_parts") plan (quiet (cl (d_Plan_source plan)))) fun source2 =>
    bnd (bnd (intI source2) fun i5 => bnd (lenI places) fun n6 => ret (decide (n6 < i5))) fun kk => bnd (if kk = true then
    bnd (bnd (lenI more) fun n7 => bnd (intI times) fun i6 => bnd (mulI n7 (i6 - 1)) fun i7 => addI source2 (.int i7)) fun source3 =>
    ret (.int source3)
    else
    ret source2) fun j =>
    bnd (insIs (Str.ofString "Plan") (Str.ofString "own_parts") plan (quiet (cl (d_Plan_pattern plan)))) fun pattern4 => bnd (intI times) fun i8 => bnd (repT more (.int (i8 - 1))) fun c3 => bnd (addD pattern4 c3) fun c4 => bnd (cl (d_Plan_init c4 j p1.1 p1.2)) fun d => ret (.ins (Str.ofString "Plan") (Str.ofString "own_parts") d)
def m_power : List SV → W D
  | [.d plan, .d times] => d_power plan times
  | _ => stuck
@[irreducible] def d_l_labels : W D :=
    bnd (bnd (drw 3) fun r => bnd (drw 26) fun r1 => ret (r, r1)) fun p =>
    bnd (bnd (drw 3) fun r2 => rngI (2 + r2)) fun isV => forT (fun turn j =>
    bnd (bnd (mulI 5 turn) fun i => bnd (modI (p.2 + i) 26) fun i1 => ixD (.str (Str.ofString "abcdefghijklmnopqrstuvwxyz")) (.int i1)) fun letter =>
    bnd (bnd (ixD (.str (Str.ofString "abcdefghijklmnopqrstuvwxyz")) (.int p.2)) fun y1 => bnd (mulI 2 turn) fun i2 => bnd (repSD y1 (.int (i2 + 1))) fun c => bnd (ixD (.str (Str.ofString "abcdefghijklmnopqrstuvwxyz")) (.int p.2)) fun y2 => bnd (repSD y2 (.int 7)) fun c1 => bnd (addD c1 letter) fun c2 => ixD (.lst [letter, c, c2]) (.int p.1)) fun app => roomL j (
    ret (.go (j ++ [app])))) (fun j1 =>
    ret (.lst j1)) isV []
def m_l_labels : List SV → W D
  | [.pen] => d_l_labels
  | _ => stuck
@[irreducible] def d_l_number : W D :=
    bnd (drw 5) fun near =>
    bnd (drw 4) fun r1 => ixD (.lst [(.int (near - 2)), (.int (near - 2)), (.int (1000000000000000000 - near)), (.int (near - 1000000000000000000))]) (.int r1)
def m_l_number : List SV → W D
  | [.pen] => d_l_number
  | _ => stuck
@[irreducible] def d_l_deed (labels : D) (fields : D) : W D :=
    bnd (drw 11) fun way =>
    bnd (bnd (lenI labels) fun n => bnd (drw n) fun r1 => ixD labels (.int r1)) fun label =>
    bnd (bnd (lenI fields) fun n1 => bnd (drw n1) fun r2 => ixD fields (.int r2)) fun field =>
    if (decide (way < 3)) = true then
    bnd (d_l_number) fun y2 => ret (.tup [(.str (Str.ofString "set")), field, y2])
    else
    if (decide (way = 3)) = true then
    ret (.tup [(.str (Str.ofString "del")), field])
    else
    bnd (ixD (.lst [(.str (Str.ofString "mark")), (.str (Str.ofString "mark")), (.str (Str.ofString "mark")), (.str (Str.ofString "back")), (.str (Str.ofString "back")), (.str (Str.ofString "keep")), (.str (Str.ofString "keep"))]) (.int (way - 4))) fun y3 => ret (.tup [y3, label])
def m_l_deed : List SV → W D
  | [.pen, .d labels, .d fields] => d_l_deed labels fields
  | _ => stuck
@[irreducible] def d_l_steady (labels : D) (fields : D) : W D :=
    bnd (bnd (ixD labels (.int 0)) fun y => ret [(.tup [(.str (Str.ofString "back")), y])]) fun found =>
    bnd (bnd (drw 4) fun r => ret (decide (r = 0))) fun kk => bnd (if kk = true then
    ret []
    else
    ret found) fun j =>
    bnd (bnd (drw 7) fun r1 => rngI r1) fun isV => forT (fun turn j1 =>
    bnd (bnd (lenI fields) fun n => bnd (drw n) fun r2 => ixD fields (.int r2)) fun field =>
    bnd (bnd (d_l_number) fun y2 => ret [(.tup [(.str (Str.ofString "set")), field, y2]), (.tup [(.str (Str.ofString "del")), field]), (.tup [(.str (Str.ofString "set")), field, (.int turn)])]) fun deeds =>
    bnd (bnd (ixD labels (.int 0)) fun y3 => eqB (.lst (cutD j1 none (some 1))) (.lst [(.tup [(.str (Str.ofString "back")), y3])])) fun kk => bnd (if kk = true then
    bnd (bnd (lenI labels) fun n1 => bnd (drw (n1 - 1)) fun r3 => bnd (ixD labels (.int (1 + r3))) fun y4 => ret [(.str (Str.ofString "mark")), y4]) fun app => roomL deeds (
    ret (deeds ++ [(D.tup app)]))
    else
    ret deeds) fun j2 =>
    bnd (bnd (drw (j2.length : Int)) fun r4 => ixD (.lst j2) (.int r4)) fun app1 => roomL j1 (
    ret (.go (j1 ++ [app1])))) (fun j3 =>
    ret (.lst j3)) isV j
def m_l_steady : List SV → W D
  | [.pen, .d labels, .d fields] => d_l_steady labels fields
  | _ => stuck
@[irreducible] def d_l_adds (sketch : D) (one : D) (two : D) : W D :=
    bnd (bnd (addD one two) fun c => cl (d_power sketch c)) fun both =>
    bnd (orB (bnd (bnd (cl (d_power sketch one)) fun y1 => bnd (cl (d_power sketch two)) fun y2 => insIs (Str.ofString "Plan") (Str.ofString "own_parts") y1 (insIs (Str.ofString "Plan") (Str.ofString "own_parts") y2 (quiet (cl (d_Plan_mul y1 y2))))) fun y3 => bnd (bnd (insIs (Str.ofString "Plan") (Str.ofString "own_parts") both (insIs (Str.ofString "Plan") (Str.ofString "own_parts") y3 (quiet (cl (d_Plan_eq both y3))))) notBl) fun k => blB k) (bnd (bnd (cl (d_power sketch two)) fun y4 => bnd (cl (d_power sketch one)) fun y5 => insIs (Str.ofString "Plan") (Str.ofString "own_parts") y4 (insIs (Str.ofString "Plan") (Str.ofString "own_parts") y5 (quiet (cl (d_Plan_mul y4 y5))))) fun y6 => bnd (bnd (insIs (Str.ofString "Plan") (Str.ofString "own_parts") both (insIs (Str.ofString "Plan") (Str.ofString "own_parts") y6 (quiet (cl (d_Plan_eq both y6))))) notBl) fun k2 => blB k2)) fun kk => if kk = true then
    ret (.bl false)
    else
    bnd (bnd (cl (d_power sketch one)) fun y7 => cl (d_power y7 two)) fun y8 => bnd (bnd (cl (d_power sketch two)) fun y9 => cl (d_power y9 one)) fun y10 => insIs (Str.ofString "Plan") (Str.ofString "own_parts") y8 (insIs (Str.ofString "Plan") (Str.ofString "own_parts") y10 (quiet (cl (d_Plan_eq y8 y10))))
def m_l_adds : List SV → W D
  | [.d sketch, .d one, .d two] => d_l_adds sketch one two
  | _ => stuck
@[irreducible] def d_l_small_right (deeds : D) : W D :=
    bnd (cl (d_Plan_of deeds)) fun sketch =>
    bnd (bnd (drw 6) fun r => bnd (drw 5) fun r1 => ret (r, r1)) fun p =>
    bnd (orB (bnd (cl (d_l_adds sketch (.int p.1) (.int p.2))) fun y1 => bnd (tru y1) fun k => ret (!k)) (bnd (bnd (cl (d_power sketch (.int p.1))) fun y2 => cl (d_power y2 (.int p.2))) fun y3 => bnd (bnd (mulI p.1 p.2) fun i => cl (d_power sketch (.int i))) fun y4 => bnd (bnd (insIs (Str.ofString "Plan") (Str.ofString "own_parts") y3 (insIs (Str.ofString "Plan") (Str.ofString "own_parts") y4 (quiet (cl (d_Plan_eq y3 y4))))) notBl) fun k1 => blB k1)) fun kk => if kk = true then
    ret (.bl false)
    else
    bnd (bnd (cl (d_power sketch (.int p.1))) fun y5 => bnd (bnd (repD deeds (.int p.1)) fun c => cl (d_Plan_of c)) fun y6 => bnd (bnd (insIs (Str.ofString "Plan") (Str.ofString "own_parts") y5 (insIs (Str.ofString "Plan") (Str.ofString "own_parts") y6 (quiet (cl (d_Plan_eq y5 y6))))) notBl) fun k4 => blB k4) fun kk => if kk = true then
    ret (.bl false)
    else
    bnd (bnd (insIs (Str.ofString "Plan") (Str.ofString "own_parts") sketch (quiet (cl (d_Plan_pattern sketch)))) fun pattern => bnd (cl (d_own_matches sketch)) fun y7 => bnd (intI y7) fun i1 => slD pattern (some i1) none) fun restV =>
    bnd (cl (d_power sketch (.int (p.1 + 1)))) fun y8 => bnd (insIs (Str.ofString "Plan") (Str.ofString "own_parts") y8 (quiet (cl (d_Plan_pattern y8)))) fun pattern1 => bnd (insIs (Str.ofString "Plan") (Str.ofString "own_parts") sketch (quiet (cl (d_Plan_pattern sketch)))) fun pattern2 => bnd (repT restV (.int p.1)) fun c1 => bnd (addD pattern2 c1) fun c2 => bnd (eqB pattern1 c2) fun k6 => ret (.bl k6)
def m_l_small_right : List SV → W D
  | [.pen, .d deeds] => d_l_small_right deeds
  | _ => stuck
@[irreducible] def d_l_great_right (deeds : D) : W D :=
    bnd (cl (d_Plan_of deeds)) fun sketch =>
    bnd (bnd (drw 1000000000000000000000000) fun r => ret (1000000000000000000000000 + r)) fun one =>
    bnd (bnd (drw 10000000000000000000000000) fun r1 => bnd (drw 4) fun r2 => ixD (.lst [(.int 10000000000000000000000000), (.int (2 + r1)), (.int 2), (.int 3)]) (.int r2)) fun two =>
    bnd (orB (bnd (cl (d_l_adds sketch (.int one) two)) fun y2 => bnd (tru y2) fun k => ret (!k)) (bnd (mulI 9 10000000000000000000000000000000000000000000000000) fun i => bnd (drw 100) fun r3 => bnd (cl (d_l_adds sketch (.int i) (.int (10000000000000000000000000000000000000000000000000 - r3)))) fun y3 => bnd (tru y3) fun k1 => ret (!k1))) fun kk => if kk = true then
    ret (.bl false)
    else
    bnd (orB (bnd (bnd (cl (d_power sketch (.int one))) fun y4 => cl (d_power y4 two)) fun y5 => bnd (bnd (intI two) fun i1 => bnd (mulI one i1) fun i2 => cl (d_power sketch (.int i2))) fun y6 => bnd (bnd (insIs (Str.ofString "Plan") (Str.ofString "own_parts") y5 (insIs (Str.ofString "Plan") (Str.ofString "own_parts") y6 (quiet (cl (d_Plan_eq y5 y6))))) notBl) fun k3 => blB k3) (bnd (cl (d_power sketch (.int one))) fun y7 => bnd (cl (d_power sketch (.int 2))) fun y8 => bnd (bnd (insIs (Str.ofString "Plan") (Str.ofString "own_parts") y7 (insIs (Str.ofString "Plan") (Str.ofString "own_parts") y8 (quiet (cl (d_Plan_eq y7 y8))))) notBl) fun k5 => blB k5)) fun kk => if kk = true then
    ret (.bl false)
    else
    andD (bnd (cl (d_power sketch (.int 100000000000000000000000000000000000000000000000000))) fun y9 => bnd (insIs (Str.ofString "Plan") (Str.ofString "own_parts") sketch (insIs (Str.ofString "Plan") (Str.ofString "own_parts") sketch (quiet (cl (d_Plan_mul sketch sketch))))) fun y10 => insIs (Str.ofString "Plan") (Str.ofString "own_parts") y9 (insIs (Str.ofString "Plan") (Str.ofString "own_parts") y10 (quiet (cl (d_Plan_eq y9 y10))))) (bnd (bnd (cl (d_power sketch (.int one))) fun y11 => insIs (Str.ofString "Plan") (Str.ofString "own_parts") y11 (insIs (Str.ofString "Plan") (Str.ofString "own_parts") sketch (quiet (cl (d_Plan_mul y11 sketch))))) fun y12 => bnd (cl (d_power sketch (.int 3))) fun y13 => insIs (Str.ofString "Plan") (Str.ofString "own_parts") y12 (insIs (Str.ofString "Plan") (Str.ofString "own_parts") y13 (quiet (cl (d_Plan_eq y12 y13)))))
def m_l_great_right : List SV → W D
  | [.pen, .d deeds] => d_l_great_right deeds
  | _ => stuck
@[irreducible] def d_law : W D :=
    bnd (rngK 3) fun isV => forT (fun turn j =>
    bnd (bnd (d_l_labels) fun y => bnd (d_l_labels) fun y1 => ret (y, y1)) fun p =>
    bnd (bnd (drw 9) fun r => bnd (rngI r) fun isV1 => mapP (fun again => d_l_deed p.1 p.2) isV1) fun deeds =>
    bnd (orB (bnd (d_l_small_right (.lst deeds)) fun y3 => bnd (tru y3) fun k => ret (!k)) (bnd (d_l_steady p.1 p.2) fun y4 => bnd (d_l_great_right y4) fun y5 => bnd (tru y5) fun k1 => ret (!k1))) fun kk => if kk = true then
    ret (.out (.bl false))
    else
    ret (.go ())) (fun j1 =>
    ret (.bl true)) isV ()
end Q24

namespace Q24
open PySem PySem.Spec L2 PL
def topS (i : Nat) : Stmt := PySem.Challenge.pw_rewindplan_k24_whole_powers_add_up.main.body.getD i (.Pass ⟨0, 0, 0, 0⟩)
section
variable {P : Program} {w : World} {K : PySem.W.Frag} {mg : Str → Option Value} {base : Heap}
abbrev sDraw : Stmt := topS 66
theorem sc_draw : FnScope ["_law_pen_here", "_law_bound", "_law_digit", "_law_turn", "_law_cell", "_law_great", "_law_mixed"] ["_law_pen_here", "_law_bound"] (defScope sDraw) := ⟨rfl, rfl, rfl, by decide +kernel, rfl, by decide +kernel, by decide +kernel⟩
set_option maxHeartbeats 0 in
theorem ok_draw {k : Nat} {f : Addr} {fd : FuncData} {T : List (Addr × Str)} {mgl : Str → Option Value} {bb : Bool} (F : Fun K "_law_draw" "_law_draw" sDraw f fd) (ml : mg "len" = none) (mb : mg "abs" = none) (mi : mg "int" = none) :
    FnG P w K mg base (k + 1) f fd ["_law_pen_here", "_law_bound"] (spM ((penG.wt T mgl).wc bb) K mg 2 drawM) := by
  refine FnG.of_body F sc_draw (fun vs H Q E ⟨S, pen, args, n, P, PX, hl, _, _, _, _, r, _⟩ => r.len.trans hl) fun cdv A outer s H vs Q E hg hr ⟨S, pen, args, n, Pd, PX, hl, dom, hp, htb, hmu, r, q, hq, hx⟩ => ?_
  obtain ⟨b, rfl, hn, hb0, hb1, q⟩ := drawM_inv q
  obtain ⟨v1, ws1, rfl, ⟨p, rfl, rfl⟩, v2, ws2, rfl, e4, e5⟩ := r
  obtain rfl : ws2 = [] := e5
  obtain rfl : v2 = V.int b := e4
  obtain ⟨⟨hne, cs, t, g, ha, hb, hcs, ht, htn, hg0⟩, nS1, nS2⟩ := hp p rfl
  obtain ⟨a, ca⟩ := p
  have nd := sc_draw.nd
  have hbW : ∀ {i : Int}, CDivW i b := wide_div (b := 200) hb0 (by omega) (by decide) (by decide)
  have t0 : (0 : Int) ≤ t * t := Int.mul_nonneg ht ht
  have t1 : t * t ≤ 4000000 * 4000000 := sq_le ht (by unfold drawMax at hn; omega)
  have t2 : t < 4000000 := by unfold drawMax at hn; omega
  -- the end, from any cell
  obtain ⟨u2, U2, hU2⟩ : ∃ u, PSs (cxOf (L2.CX P w) P w K mg base ["_law_pen_here", "_law_bound", "_law_digit", "_law_turn", "_law_cell", "_law_great", "_law_mixed"] "_law_draw" (defScope sDraw) f cdv A outer s H E) ((defBody sDraw).drop 6) u ∧
      ∀ (z : Int) (H2 : Hp), H2 a = some (.lst [.ref ca, .int (t + 1), .int g]) → (∀ x o, x ≠ a → H x = some o → H2 x = some o) → u { nx := fun _ H' => Q .non H', rt := Q } [some (.ref a), some (.int b), none, some (.int t), some (.int z), none, none] H2 := by
    refine ⟨_, pss_cons (ps_set (i := 6) nd rfl (.inl rfl) (pe_op op_mod (pe_op op_pow (pe_op op_add (pe_op op_add (pe_op op_add (pe_op op_mod (pv 4) pe_int) (pe_op op_mul (pe_op op_mul pe_int (pv 3)) (pv 3))) (pe_op op_mul pe_int (pv 3))) pe_int) pe_int) pe_int))
    (pss_cons (ps_set (i := 6) nd rfl (.inl rfl) (pe_op op_mod (pe_op op_pow (pe_op op_add (pe_op op_add (pe_op op_mul (pv 6) (pe_op op_add (pe_op op_mul pe_int (pv 3)) pe_int)) (pe_op op_mul pe_int (pv 3))) pe_int) pe_int) pe_int))
    (pss_one (ps_ret (pe_op op_mod (pe_op op_fdiv (pv 6) pe_int) (pv 1))))), fun z H2 h2a h2 => ?_⟩
    have m0 : ∀ y M : Int, 0 < M → 0 ≤ y % M ∧ y % M < M := fun y M h => ⟨Int.emod_nonneg _ (by omega), Int.emod_lt_of_pos _ h⟩
    refine ⟨_, rfl, _, _, rfl, rfl, (by show (0 : Int) < _; decide), _, rfl, _, _, rfl, rfl, .inr ⟨by omega, by omega⟩, _, rfl, _, _, rfl, rfl, .inr ⟨by omega, by omega⟩, _, _, rfl, rfl, ?_⟩
    refine ⟨_, rfl, _, _, rfl, rfl, .inr ⟨by omega, by omega⟩, _, _, rfl, rfl, _, _, rfl, rfl, ?_⟩
    rw [Int.mul_assoc]
    have q1 := m0 z 2147483587 (by decide)
    refine ⟨_, _, rfl, rfl, ⟨by decide, by decide, by omega⟩, _, _, rfl, rfl, (by show (0 : Int) < _; decide), ?_⟩
    have q2 : 0 ≤ ((z % 2147483587 + 60037 * (t * t) + 30013 * t + 29) ^ (5 : Int).toNat % 2147483563) ∧ ((z % 2147483587 + 60037 * (t * t) + 30013 * t + 29) ^ (5 : Int).toNat % 2147483563) < 2147483563 := m0 _ _ (by decide)
    refine ⟨_, rfl, _, rfl, _, _, rfl, rfl, .inr ⟨by omega, by omega⟩, _, _, rfl, rfl, _, _, rfl, rfl, .inl ⟨by omega, by omega⟩, ?_⟩
    have q3 : 0 ≤ ((z % 2147483587 + 60037 * (t * t) + 30013 * t + 29) ^ (5 : Int).toNat % 2147483563) * (2 * t + 31) ∧ ((z % 2147483587 + 60037 * (t * t) + 30013 * t + 29) ^ (5 : Int).toNat % 2147483563) * (2 * t + 31) ≤ 2147483563 * 8000100 := ⟨Int.mul_nonneg q2.1 (by omega), Int.mul_le_mul (by omega) (by omega) (by omega) (by omega)⟩
    refine ⟨_, rfl, _, _, rfl, rfl, .inr ⟨by omega, by omega⟩, _, _, rfl, rfl, _, _, rfl, rfl, ⟨_, _, rfl, rfl, ⟨by decide, by decide, by omega⟩, _, _, rfl, rfl, (by show (0 : Int) < _; decide), ?_⟩⟩
    refine ⟨_, rfl, _, _, rfl, rfl, ⟨by decide, by decide⟩, _, rfl, _, _, rfl, rfl, hb0, ?_⟩
    exact hq (.int _) ⟨n.n + 1, n.μ⟩ _ S H2 (q _ (n.n + 1) (Int.emod_nonneg _ (by omega)) (Int.emod_lt_of_pos _ hb0) (by omega) (Nat.le_refl _)) (After.drawW hne dom (by rw [ha]; exact fun z => nomatch z) nS1 nS2 hb htb ⟨_, ha⟩ hmu h2 h2a hcs (by omega) (by omega) hg0) rfl
  -- the rest, from any cell
  obtain ⟨u, U, hU⟩ : ∃ u, PSs (cxOf (L2.CX P w) P w K mg base ["_law_pen_here", "_law_bound", "_law_digit", "_law_turn", "_law_cell", "_law_great", "_law_mixed"] "_law_draw" (defScope sDraw) f cdv A outer s H E) ((defBody sDraw).drop 5) u ∧
      ∀ (z : Int) (H2 : Hp), H2 a = some (.lst [.ref ca, .int (t + 1), .int g]) → (∀ x o, x ≠ a → H x = some o → H2 x = some o) → u { nx := fun _ H' => Q .non H', rt := Q } [some (.ref a), some (.int b), none, some (.int t), some (.int z), none, none] H2 := by
    refine ⟨_, pss_cons (ps_if (PW.pt (pw_and (pt_cmpR op_lt (pv 3) (pe_callB call_len_seq (by rfl) ml PySem.boot_len (pa_cons (pe_ix ix_list (pv 0) pe_int (fun _ _ => rfl)) pa_nil)) (nomark _))
        (pw_and1 (pt_cmpR op_ge (pe_callB call_abs (by rfl) mb PyProof.Rows.boot_abs (pa_cons (pv 4) pa_nil)) (pe_op op_pow pe_int pe_int) (nomark _)))))
      (pss_cons (ps_set (i := 5) nd rfl (.inl rfl) (pe_op op_add (pe_op op_mul pe_int (pe_op op_sub (pe_callB call_abs (by rfl) mb PyProof.Rows.boot_abs (pa_cons (pv 4) pa_nil)) (pe_op op_pow pe_int pe_int))) (pe_callTy call_int1 (by rfl) mi PyProof.Rows.boot_int (pa_cons (pe_cmpR op_lt (pv 4) pe_int (nomark _)) pa_nil))))
      (pss_cons (ps_asg (pe_op op_fdivW (pv 5) (pv 1)) (pg_sub (pv 0) pe_int set_list))
      (pss_one (ps_ret (pe_op op_mod (pv 5) (pv 1)))))) pss_nil) U2, fun z H2 h2a h2 => ?_⟩
    have h2b : SqL K H2 ca (cs.map V.int) := SqL.of (h2 ca _ (Ne.symm hne) hb)
    refine ⟨_, rfl, rd_ix 0 rfl h2a rfl ⟨ca, _, rfl, .inl h2b, _, _, rfl, rfl, _, rfl, ite2 (fun _ => ?_) (fun _ => iteF (hU2 z H2 h2a h2))⟩⟩
    refine ⟨_, rfl, z, rfl, _, _, rfl, rfl, ⟨by decide, by decide, by decide⟩, _, _, rfl, rfl, _, rfl, ite2 (fun hc => ?_) (fun _ => hU2 z H2 h2a h2)⟩
    have hc' := of_decide_eq_true hc
    -- a great cell
    refine ⟨_, rfl, z, rfl, _, _, rfl, rfl, ⟨by decide, by decide, by decide⟩, _, _, rfl, rfl, _, _, rfl, rfl, .inl ⟨by decide, by decide⟩, ?_⟩
    refine ⟨_, rfl, _, _, rfl, rfl, .inr ⟨_, rfl, _, _, rfl, rfl, ?_⟩⟩
    have hgg : 0 ≤ 2 * ((if z < 0 then -z else z) - 10 ^ (18 : Int).toNat) + (if decide (z < 0) = true then 1 else 0) := by
      have : (0 : Int) ≤ if decide (z < 0) = true then 1 else 0 := by split <;> omega
      omega
    refine ⟨_, rfl, _, rfl, _, _, rfl, rfl, hbW, wr_ix 2 rfl h2a (Nat.lt_succ_self _) ⟨_, rfl, _, rfl, _, _, rfl, rfl, hb0, ?_⟩⟩
    exact hq (.int _) ⟨n.n + 1, n.μ⟩ _ S _ (q _ (n.n + 1) (Int.emod_nonneg _ (by omega)) (Int.emod_lt_of_pos _ hb0) (by omega) (Nat.le_refl _)) (After.drawW hne dom (by rw [ha]; exact fun z => nomatch z) nS1 nS2 hb htb ⟨_, ha⟩ hmu (fun x o hx e => by rw [upd_ne hx]; exact h2 x o hx e) upd_same hcs (by omega) (by omega) (Int.ediv_nonneg hgg (by omega))) rfl
  refine ⟨_, pss_cons (ps_if (pt_cmpR op_gt (pe_ix ix_list (pv 0) pe_int (fun _ _ => rfl)) pe_int (nomark _))
      (pss_cons (ps_set (i := 2) nd rfl (.inl rfl) (pe_op op_mod (pe_ix ix_list (pv 0) pe_int (fun _ _ => rfl)) (pv 1)))
      (pss_cons (ps_asg (pe_op op_fdivW (pe_ix ix_list (pv 0) pe_int (fun _ _ => rfl)) (pv 1)) (pg_sub (pv 0) pe_int set_list))
      (pss_one (ps_ret (pv 2))))) pss_nil)
    (pss_cons (ps_set (i := 3) nd rfl (.inl rfl) (pe_ix ix_list (pv 0) pe_int (fun _ _ => rfl)))
    (pss_cons (ps_asg (pe_op op_add (pv 3) pe_int) (pg_sub (pv 0) pe_int set_list))
    (pss_cons (ps_set (i := 4) nd rfl (.inl rfl) (pe_op op_add (pe_op op_mul pe_int (pv 3)) pe_int))
    (pss_cons (ps_if (pt_cmpR (op_neD (u64 hr)) (pe_ix ix_list (pv 0) pe_int (fun _ _ => rfl)) (pe_lst pa_nil) (nomark _))
      (pss_one (ps_set (i := 4) nd rfl (.inl rfl) (pe_ix ix_list (pe_ix ix_list (pv 0) pe_int (fun _ _ => rfl)) (pe_op op_mod (pv 3) (pe_callB call_len_seq (by rfl) ml PySem.boot_len (pa_cons (pe_ix ix_list (pv 0) pe_int (fun _ _ => rfl)) pa_nil))) (fun _ _ => rfl)))) pss_nil) U)))), ?_⟩
  refine rd_ix 2 rfl ha rfl ⟨_, _, rfl, rfl, _, rfl, ite2 (fun hc => ?_) (fun hc => ?_)⟩
  · -- a digit of the rest
    refine rd_ix 2 rfl ha rfl ⟨_, rfl, _, _, rfl, rfl, hb0, rd_ix 2 rfl ha rfl ⟨_, rfl, _, _, rfl, rfl, hbW, wr_ix 2 rfl ha (Nat.lt_succ_self _) ⟨_, rfl, ?_⟩⟩⟩
    exact hq (.int (g % b)) ⟨n.n, n.μ⟩ _ S _ (q _ n.n (Int.emod_nonneg _ (by omega)) (Int.emod_lt_of_pos _ hb0) (Nat.le_refl _) (by omega)) (After.drawW hne dom (by rw [ha]; exact fun z => nomatch z) nS1 nS2 hb htb ⟨_, ha⟩ hmu (fun x o hx e => by rw [upd_ne hx]; exact e) upd_same hcs ht htn (Int.ediv_nonneg hg0 (by omega))) rfl
  · refine rd_ix 1 rfl ha rfl ⟨_, rfl, _, _, rfl, rfl, wr_ix 1 rfl ha (by show 1 < 3; omega) ?_⟩
    refine ⟨_, rfl, _, _, rfl, rfl, .inr ⟨by omega, by omega⟩, _, _, rfl, rfl, ?_⟩
    have ha1 : upd H a (.lst [.ref ca, .int (t + 1), .int g]) a = some (.lst [.ref ca, .int (t + 1), .int g]) := upd_same
    have h1 : ∀ x o, x ≠ a → H x = some o → upd H a (.lst [.ref ca, .int (t + 1), .int g]) x = some o := fun x o hx e => by rw [upd_ne hx]; exact e
    refine rd_ix 0 rfl ha1 rfl ⟨Nat.zero_le _, fun p hp => ?_⟩
    have ap : a ≠ p := ne_of_none ha1 hp
    have ha2 : upd (upd H a (.lst [.ref ca, .int (t + 1), .int g])) p (.lst []) a = some (.lst [.ref ca, .int (t + 1), .int g]) := by rw [upd_ne ap]; exact ha1
    have h2 : ∀ x o, x ≠ a → H x = some o → upd (upd H a (.lst [.ref ca, .int (t + 1), .int g])) p (.lst []) x = some o := fun x o hx e => by
      have e1 := h1 x o hx e
      rw [upd_ne (ne_of_none e1 hp)]
      exact e1
    have hb2 := h2 ca _ (Ne.symm hne) hb
    refine ⟨.list (cs.map PyData.int), .list [], .lst (SqL.of hb2) (dp_ints cs), .lst (SqL.of upd_same) .nil, shaped_ints cs, by decide +kernel, _, rfl, ite2 (fun he => ?_) (fun he => hU _ _ ha2 h2)⟩
    rw [eqv_nil] at he
    have hpos : 0 < cs.length := by
      cases cs with
      | nil => simp at he
      | cons _ _ => exact Nat.zero_lt_succ _
    have hm0 := Int.emod_nonneg t (show (cs.length : Int) ≠ 0 by omega)
    have hm1 := Int.emod_lt_of_pos t (show (0 : Int) < cs.length by omega)
    obtain ⟨m, hm⟩ : ∃ m : Nat, t % (cs.length : Int) = m := ⟨(t % (cs.length : Int)).toNat, by omega⟩
    have hml : m < cs.length := by omega
    refine rd_ix 0 rfl ha2 rfl ⟨_, rfl, rd_ix 0 rfl ha2 rfl ⟨ca, _, rfl, .inl (SqL.of hb2), _, _, rfl, rfl, by rw [List.length_map]; omega, ca, _, _, .int cs[m], rfl, rfl, SqL.of hb2, ?_, hU _ _ ha2 h2⟩⟩
    rw [List.length_map, hm]
    exact atI_nat (by rw [List.getElem?_map, List.getElem?_eq_getElem hml]; rfl)
set_option maxHeartbeats 0 in
theorem ok_l_pen {f : Addr} {fd : FuncData} {T : List (Addr × Str)} {mgl : Str → Option Value} {bb : Bool} (F : Fun K "_law_pen" "_law_pen" (topS 65) f fd) (ml : mg "list" = none) : FnG P w K mg base 1 f fd ["_law_script"] (spFeedK ((penG.wt T mgl).wc bb) K) := by
  have sc : FnScope ["_law_script"] ["_law_script"] (defScope (topS 65)) := ⟨rfl, rfl, rfl, by decide +kernel, rfl, by decide +kernel, by decide +kernel⟩
  refine FnG.of_body F sc (fun vs H Q E ⟨a, ns, e, _⟩ => by rw [e]; rfl) fun cdv A outer s H vs Q E hg hr ⟨a, ns, e, hS, hl, q⟩ => ?_
  subst e
  refine ⟨_, pss_one (ps_ret (pe_lst (pa_cons (pe_callTy call_list_of (by rfl) ml PyProof.Rows.boot_list (pa_cons (pe_slice sl_list (pv 0) po_none (po_some pe_int)) pa_nil)) (pa_cons pe_int (pa_cons pe_int pa_nil))))), ?_⟩
  refine ⟨.ref a, rfl, ?_⟩
  have hc : cutV (ns.map V.int) none (some 63) = ns.map V.int := by
    unfold cutV
    rw [HT.sIx_none, show (63 : Int) = ((63 : Nat) : Int) from rfl, HT.sIx_nat, List.length_map, Nat.min_eq_right hl, Nat.sub_zero, List.drop_zero, List.take_of_length_le (by rw [List.length_map]; exact Nat.le_refl _)]
  refine ⟨63, rfl, a, _, rfl, hS, fun b hb => ⟨b, _, rfl, .inl (SqL.of upd_same), fun l hl2 => ⟨(by show 3 ≤ sizeLine; rw [sizeLine_eq]; decide), fun p hp => ?_⟩⟩⟩
  rw [hc] at hl2 hp ⊢
  have lp : l ≠ p := fun z => by rw [z, upd_same] at hp; cases hp
  have sm : ∀ x o, H x = some o → upd (upd (upd H b (.lst (ns.map V.int))) l (.lst (ns.map V.int))) p (.lst [.ref l, .int 0, .int 0]) x = some o := fun x o e => by
    have e1 : upd H b (.lst (ns.map V.int)) x = some o := by rw [upd_ne (ne_of_none e hb)]; exact e
    have e2 : upd (upd H b (.lst (ns.map V.int))) l (.lst (ns.map V.int)) x = some o := by rw [upd_ne (ne_of_none e1 hl2)]; exact e1
    rw [upd_ne (ne_of_none e2 hp)]
    exact e2
  exact q _ p l ⟨Ne.symm lp, ns, 0, 0, upd_same, (by rw [upd_ne lp]; exact upd_same), hl, Int.le_refl _, Int.le_refl _, Int.le_refl _⟩ fun P ps e => sm P _ e
end
abbrev s_is_integer : Stmt := topS 11
abbrev s_is_between : Stmt := topS 12
abbrev s_is_word : Stmt := topS 13
abbrev s_is_value : Stmt := topS 14
abbrev s_are_pairs : Stmt := topS 15
abbrev s_is_map : Stmt := topS 16
abbrev s_pairs_of : Stmt := topS 17
abbrev s_overlaid : Stmt := topS 18
abbrev s_is_command : Stmt := topS 27
abbrev s_is_write : Stmt := topS 28
abbrev s_entry_of : Stmt := topS 29
abbrev s_first_invalid : Stmt := topS 31
abbrev s_need_script : Stmt := topS 32
abbrev s_places_in : Stmt := topS 34
abbrev s_nearest_place : Stmt := topS 37
abbrev s_extended : Stmt := topS 40
abbrev s_own_places : Stmt := topS 41
abbrev s_inner_map : Stmt := topS 42
abbrev s_frames_over : Stmt := topS 43
abbrev s_composed : Stmt := topS 44
abbrev s_is_frame : Stmt := topS 52
abbrev s_are_nested : Stmt := topS 53
abbrev s_are_parts : Stmt := topS 54
abbrev s_Plan_init : Stmt := clsDef (topS 55) 0
abbrev s_Plan_of : Stmt := clsDef (topS 55) 1
abbrev s_Plan_pattern : Stmt := clsDef (topS 55) 2
abbrev s_Plan_source : Stmt := clsDef (topS 55) 3
abbrev s_Plan_frames : Stmt := clsDef (topS 55) 4
abbrev s_Plan_writes : Stmt := clsDef (topS 55) 5
abbrev s_Plan_mul : Stmt := clsDef (topS 55) 7
abbrev s_Plan_eq : Stmt := clsDef (topS 55) 8
abbrev s_own_matches : Stmt := topS 59
abbrev s_need_times : Stmt := topS 60
abbrev s_frames_kept : Stmt := topS 61
abbrev s_inner_of : Stmt := topS 62
abbrev s_power : Stmt := topS 63
abbrev s_l_pen : Stmt := topS 65
abbrev s_l_draw : Stmt := topS 66
abbrev s_l_labels : Stmt := topS 67
abbrev s_l_number : Stmt := topS 68
abbrev s_l_deed : Stmt := topS 69
abbrev s_l_steady : Stmt := topS 70
abbrev s_l_adds : Stmt := topS 71
abbrev s_l_small_right : Stmt := topS 72
abbrev s_l_great_right : Stmt := topS 73
abbrev s_law : Stmt := topS 74
abbrev sc_is_integer_N : List Str := ["value"]
theorem sc_is_integer : FnScope sc_is_integer_N ["value"] (defScope s_is_integer) := ⟨rfl, rfl, rfl, by decide +kernel, rfl, by decide +kernel, by decide +kernel⟩
abbrev sc_is_between_N : List Str := ["value", "least", "most"]
theorem sc_is_between : FnScope sc_is_between_N ["value", "least", "most"] (defScope s_is_between) := ⟨rfl, rfl, rfl, by decide +kernel, rfl, by decide +kernel, by decide +kernel⟩
abbrev sc_is_word_N : List Str := ["value", "sign"]
theorem sc_is_word : FnScope sc_is_word_N ["value"] (defScope s_is_word) := ⟨rfl, rfl, rfl, by decide +kernel, rfl, by decide +kernel, by decide +kernel⟩
abbrev sc_is_value_N : List Str := ["value"]
theorem sc_is_value : FnScope sc_is_value_N ["value"] (defScope s_is_value) := ⟨rfl, rfl, rfl, by decide +kernel, rfl, by decide +kernel, by decide +kernel⟩
abbrev sc_are_pairs_N : List Str := ["value", "last", "pair"]
theorem sc_are_pairs : FnScope sc_are_pairs_N ["value"] (defScope s_are_pairs) := ⟨rfl, rfl, rfl, by decide +kernel, rfl, by decide +kernel, by decide +kernel⟩
abbrev sc_is_map_N : List Str := ["value", "pair"]
theorem sc_is_map : FnScope sc_is_map_N ["value"] (defScope s_is_map) := ⟨rfl, rfl, rfl, by decide +kernel, rfl, by decide +kernel, by decide +kernel⟩
abbrev sc_pairs_of_N : List Str := ["entries", "key"]
theorem sc_pairs_of : FnScope sc_pairs_of_N ["entries"] (defScope s_pairs_of) := ⟨rfl, rfl, rfl, by decide +kernel, rfl, by decide +kernel, by decide +kernel⟩
abbrev sc_overlaid_N : List Str := ["lower", "upper"]
theorem sc_overlaid : FnScope sc_overlaid_N ["lower", "upper"] (defScope s_overlaid) := ⟨rfl, rfl, rfl, by decide +kernel, rfl, by decide +kernel, by decide +kernel⟩
abbrev sc_is_command_N : List Str := ["value"]
theorem sc_is_command : FnScope sc_is_command_N ["value"] (defScope s_is_command) := ⟨rfl, rfl, rfl, by decide +kernel, rfl, by decide +kernel, by decide +kernel⟩
abbrev sc_is_write_N : List Str := ["command"]
theorem sc_is_write : FnScope sc_is_write_N ["command"] (defScope s_is_write) := ⟨rfl, rfl, rfl, by decide +kernel, rfl, by decide +kernel, by decide +kernel⟩
abbrev sc_entry_of_N : List Str := ["command"]
theorem sc_entry_of : FnScope sc_entry_of_N ["command"] (defScope s_entry_of) := ⟨rfl, rfl, rfl, by decide +kernel, rfl, by decide +kernel, by decide +kernel⟩
abbrev sc_first_invalid_N : List Str := ["value", "index", "command"]
theorem sc_first_invalid : FnScope sc_first_invalid_N ["value"] (defScope s_first_invalid) := ⟨rfl, rfl, rfl, by decide +kernel, rfl, by decide +kernel, by decide +kernel⟩
abbrev sc_need_script_N : List Str := ["value", "wrong"]
theorem sc_need_script : FnScope sc_need_script_N ["value"] (defScope s_need_script) := ⟨rfl, rfl, rfl, by decide +kernel, rfl, by decide +kernel, by decide +kernel⟩
abbrev sc_places_in_N : List Str := ["pattern", "names", "found", "place", "name"]
theorem sc_places_in : FnScope sc_places_in_N ["pattern", "names"] (defScope s_places_in) := ⟨rfl, rfl, rfl, by decide +kernel, rfl, by decide +kernel, by decide +kernel⟩
abbrev sc_nearest_place_N : List Str := ["pile", "name", "place"]
theorem sc_nearest_place : FnScope sc_nearest_place_N ["pile", "name"] (defScope s_nearest_place) := ⟨rfl, rfl, rfl, by decide +kernel, rfl, by decide +kernel, by decide +kernel⟩
abbrev sc_extended_N : List Str := ["parts", "command", "pattern", "source", "frames", "writes", "name", "place"]
theorem sc_extended : FnScope sc_extended_N ["parts", "command"] (defScope s_extended) := ⟨rfl, rfl, rfl, by decide +kernel, rfl, by decide +kernel, by decide +kernel⟩
abbrev sc_own_places_N : List Str := ["pattern", "frames", "last", "place", "frame"]
theorem sc_own_places : FnScope sc_own_places_N ["pattern", "frames"] (defScope s_own_places) := ⟨rfl, rfl, rfl, by decide +kernel, rfl, by decide +kernel, by decide +kernel⟩
abbrev sc_inner_map_N : List Str := ["parts", "places", "source"]
theorem sc_inner_map : FnScope sc_inner_map_N ["parts", "places", "source"] (defScope s_inner_map) := ⟨rfl, rfl, rfl, by decide +kernel, rfl, by decide +kernel, by decide +kernel⟩
abbrev sc_frames_over_N : List Str := ["inner", "frames", "name", "change"]
theorem sc_frames_over : FnScope sc_frames_over_N ["inner", "frames"] (defScope s_frames_over) := ⟨rfl, rfl, rfl, by decide +kernel, rfl, by decide +kernel, by decide +kernel⟩
abbrev sc_composed_N : List Str := ["first", "second", "pattern", "source", "frames", "writes", "places", "inner", "added", "final", "many", "below"]
theorem sc_composed : FnScope sc_composed_N ["first", "second"] (defScope s_composed) := ⟨rfl, rfl, rfl, by decide +kernel, rfl, by decide +kernel, by decide +kernel⟩
abbrev sc_is_frame_N : List Str := ["value"]
theorem sc_is_frame : FnScope sc_is_frame_N ["value"] (defScope s_is_frame) := ⟨rfl, rfl, rfl, by decide +kernel, rfl, by decide +kernel, by decide +kernel⟩
abbrev sc_are_nested_N : List Str := ["maps", "lower", "upper", "known", "key", "entry"]
theorem sc_are_nested : FnScope sc_are_nested_N ["maps"] (defScope s_are_nested) := ⟨rfl, rfl, rfl, by decide +kernel, rfl, by decide +kernel, by decide +kernel⟩
abbrev sc_are_parts_N : List Str := ["pattern", "source", "frames", "writes", "frame", "name"]
theorem sc_are_parts : FnScope sc_are_parts_N ["pattern", "source", "frames", "writes"] (defScope s_are_parts) := ⟨rfl, rfl, rfl, by decide +kernel, rfl, by decide +kernel, by decide +kernel⟩
abbrev sc_Plan_init_N : List Str := ["self", "pattern", "source", "frames", "writes"]
theorem sc_Plan_init : FnScope sc_Plan_init_N ["self", "pattern", "source", "frames", "writes"] (defScope s_Plan_init) := ⟨rfl, rfl, rfl, by decide +kernel, rfl, by decide +kernel, by decide +kernel⟩
abbrev sc_Plan_of_N : List Str := ["cls", "commands", "parts", "command"]
theorem sc_Plan_of : FnScope sc_Plan_of_N ["cls", "commands"] (defScope s_Plan_of) := ⟨rfl, rfl, rfl, by decide +kernel, rfl, by decide +kernel, by decide +kernel⟩
abbrev sc_Plan_pattern_N : List Str := ["self"]
theorem sc_Plan_pattern : FnScope sc_Plan_pattern_N ["self"] (defScope s_Plan_pattern) := ⟨rfl, rfl, rfl, by decide +kernel, rfl, by decide +kernel, by decide +kernel⟩
abbrev sc_Plan_source_N : List Str := ["self"]
theorem sc_Plan_source : FnScope sc_Plan_source_N ["self"] (defScope s_Plan_source) := ⟨rfl, rfl, rfl, by decide +kernel, rfl, by decide +kernel, by decide +kernel⟩
abbrev sc_Plan_frames_N : List Str := ["self"]
theorem sc_Plan_frames : FnScope sc_Plan_frames_N ["self"] (defScope s_Plan_frames) := ⟨rfl, rfl, rfl, by decide +kernel, rfl, by decide +kernel, by decide +kernel⟩
abbrev sc_Plan_writes_N : List Str := ["self"]
theorem sc_Plan_writes : FnScope sc_Plan_writes_N ["self"] (defScope s_Plan_writes) := ⟨rfl, rfl, rfl, by decide +kernel, rfl, by decide +kernel, by decide +kernel⟩
abbrev sc_Plan_mul_N : List Str := ["self", "other", "parts"]
theorem sc_Plan_mul : FnScope sc_Plan_mul_N ["self", "other"] (defScope s_Plan_mul) := ⟨rfl, rfl, rfl, by decide +kernel, rfl, by decide +kernel, by decide +kernel⟩
abbrev sc_Plan_eq_N : List Str := ["self", "other"]
theorem sc_Plan_eq : FnScope sc_Plan_eq_N ["self", "other"] (defScope s_Plan_eq) := ⟨rfl, rfl, rfl, by decide +kernel, rfl, by decide +kernel, by decide +kernel⟩
abbrev sc_own_matches_N : List Str := ["plan"]
theorem sc_own_matches : FnScope sc_own_matches_N ["plan"] (defScope s_own_matches) := ⟨rfl, rfl, rfl, by decide +kernel, rfl, by decide +kernel, by decide +kernel⟩
abbrev sc_need_times_N : List Str := ["times"]
theorem sc_need_times : FnScope sc_need_times_N ["times"] (defScope s_need_times) := ⟨rfl, rfl, rfl, by decide +kernel, rfl, by decide +kernel, by decide +kernel⟩
abbrev sc_frames_kept_N : List Str := ["plan", "places"]
theorem sc_frames_kept : FnScope sc_frames_kept_N ["plan", "places"] (defScope s_frames_kept) := ⟨rfl, rfl, rfl, by decide +kernel, rfl, by decide +kernel, by decide +kernel⟩
abbrev sc_inner_of_N : List Str := ["plan", "places"]
theorem sc_inner_of : FnScope sc_inner_of_N ["plan", "places"] (defScope s_inner_of) := ⟨rfl, rfl, rfl, by decide +kernel, rfl, by decide +kernel, by decide +kernel⟩
abbrev sc_power_N : List Str := ["plan", "times", "places", "kept", "more", "names", "many", "inner", "frames", "writes", "copies", "source"]
theorem sc_power : FnScope sc_power_N ["plan", "times"] (defScope s_power) := ⟨rfl, rfl, rfl, by decide +kernel, rfl, by decide +kernel, by decide +kernel⟩
abbrev sc_l_labels_N : List Str := ["_law_pen_here", "_law_alphabet", "_law_kind", "_law_first", "_law_found", "_law_turn", "_law_letter"]
theorem sc_l_labels : FnScope sc_l_labels_N ["_law_pen_here"] (defScope s_l_labels) := ⟨rfl, rfl, rfl, by decide +kernel, rfl, by decide +kernel, by decide +kernel⟩
abbrev sc_l_number_N : List Str := ["_law_pen_here", "_law_near"]
theorem sc_l_number : FnScope sc_l_number_N ["_law_pen_here"] (defScope s_l_number) := ⟨rfl, rfl, rfl, by decide +kernel, rfl, by decide +kernel, by decide +kernel⟩
abbrev sc_l_deed_N : List Str := ["_law_pen_here", "_law_labels_here", "_law_fields", "_law_way", "_law_label", "_law_field"]
theorem sc_l_deed : FnScope sc_l_deed_N ["_law_pen_here", "_law_labels_here", "_law_fields"] (defScope s_l_deed) := ⟨rfl, rfl, rfl, by decide +kernel, rfl, by decide +kernel, by decide +kernel⟩
abbrev sc_l_steady_N : List Str := ["_law_pen_here", "_law_labels_here", "_law_fields", "_law_found", "_law_turn", "_law_field", "_law_deeds"]
theorem sc_l_steady : FnScope sc_l_steady_N ["_law_pen_here", "_law_labels_here", "_law_fields"] (defScope s_l_steady) := ⟨rfl, rfl, rfl, by decide +kernel, rfl, by decide +kernel, by decide +kernel⟩
abbrev sc_l_adds_N : List Str := ["_law_sketch", "_law_one", "_law_two", "_law_both"]
theorem sc_l_adds : FnScope sc_l_adds_N ["_law_sketch", "_law_one", "_law_two"] (defScope s_l_adds) := ⟨rfl, rfl, rfl, by decide +kernel, rfl, by decide +kernel, by decide +kernel⟩
abbrev sc_l_small_right_N : List Str := ["_law_pen_here", "_law_deeds", "_law_sketch", "_law_one", "_law_two", "_law_rest"]
theorem sc_l_small_right : FnScope sc_l_small_right_N ["_law_pen_here", "_law_deeds"] (defScope s_l_small_right) := ⟨rfl, rfl, rfl, by decide +kernel, rfl, by decide +kernel, by decide +kernel⟩
abbrev sc_l_great_right_N : List Str := ["_law_pen_here", "_law_deeds", "_law_sketch", "_law_one", "_law_two"]
theorem sc_l_great_right : FnScope sc_l_great_right_N ["_law_pen_here", "_law_deeds"] (defScope s_l_great_right) := ⟨rfl, rfl, rfl, by decide +kernel, rfl, by decide +kernel, by decide +kernel⟩
abbrev sc_law_N : List Str := ["_law_script", "_law_pen_here", "_law_turn", "_law_labels_here", "_law_fields", "_law_deeds", "_law_again"]
theorem sc_law : FnScope sc_law_N ["_law_script"] (defScope s_law) := ⟨rfl, rfl, rfl, by decide +kernel, rfl, by decide +kernel, by decide +kernel⟩
set_option maxHeartbeats 0 in
structure Facts (K : PySem.W.Frag) (mg : Str → Option Value) where
  z_abs : mg "abs" = none
  z_all : mg "all" = none
  z_bool : mg "bool" = none
  z_dict : mg "dict" = none
  z_enumerate : mg "enumerate" = none
  z_int : mg "int" = none
  z_isinstance : mg "isinstance" = none
  z_len : mg "len" = none
  z_list : mg "list" = none
  z_max : mg "max" = none
  z_range : mg "range" = none
  z_sorted : mg "sorted" = none
  z_str : mg "str" = none
  z_tuple : mg "tuple" = none
  z_zip : mg "zip" = none
  c_BACK : ∃ t, mg "BACK" = some (.str "back" t)
  c_DEL : ∃ t, mg "DEL" = some (.str "del" t)
  c_EMPTY : GlobD K mg "EMPTY" (.tup [(.tup []), (.int 0), (.tup []), (.tup [])])
  c_GREATEST_VALUE : ∃ t, mg "GREATEST_VALUE" = some (.int 1000000000000000000 t)
  c_KEEP : ∃ t, mg "KEEP" = some (.str "keep" t)
  c_LETTERS : ∃ t, mg "LETTERS" = some (.str "abcdefghijklmnopqrstuvwxyz" t)
  c_LONGEST_WORD : ∃ t, mg "LONGEST_WORD" = some (.int 8 t)
  c_MARK : ∃ t, mg "MARK" = some (.str "mark" t)
  c_MOST_COMMANDS : ∃ t, mg "MOST_COMMANDS" = some (.int 60 t)
  c_MOST_PARTS : ∃ t, mg "MOST_PARTS" = some (.int 400 t)
  c_MOST_TIMES : ∃ t, mg "MOST_TIMES" = some (.int 100000000000000000000000000000000000000000000000000 t)
  c_SET : ∃ t, mg "SET" = some (.str "set" t)
  C_InvalidScript : Addr
  m_InvalidScript : mg "InvalidScript" = some (.ref C_InvalidScript)
  C_InvalidPlan : Addr
  m_InvalidPlan : mg "InvalidPlan" = some (.ref C_InvalidPlan)
  C_InvalidTimes : Addr
  m_InvalidTimes : mg "InvalidTimes" = some (.ref C_InvalidTimes)
  C_TooLong : Addr
  m_TooLong : mg "TooLong" = some (.ref C_TooLong)
  er_InvalidScript : ErrK K mg "InvalidScript" "index"
  er_InvalidPlan : ErrK0 K mg "InvalidPlan"
  er_InvalidTimes : ErrK K mg "InvalidTimes" "number"
  er_TooLong : ErrK K mg "TooLong" "most"
  ei : ErrI K mg errT []
  C_Plan : Addr
  g_Plan : mg "Plan" = some (.ref C_Plan)
  ic_Plan : InsC K "Plan" "own_parts" C_Plan
  me_Plan : PySem.W.kitOne K (.ref C_Plan) (.ref C_Plan) = some true
  sf_Plan : PySem.W.selfFirst K C_Plan = true
  ne_Plan : PySem.W.findIn K (.ref C_Plan) "__ne__" = some (some (.builtin "object.__ne__"))
  f_is_integer : Addr
  d_is_integer : FuncData
  F_is_integer : Fun K "is_integer" "is_integer" s_is_integer f_is_integer d_is_integer
  g_is_integer : mg "is_integer" = some (.ref f_is_integer)
  B_is_integer : Binds K d_is_integer ["value"] []
  f_is_between : Addr
  d_is_between : FuncData
  F_is_between : Fun K "is_between" "is_between" s_is_between f_is_between d_is_between
  g_is_between : mg "is_between" = some (.ref f_is_between)
  B_is_between : Binds K d_is_between ["value", "least", "most"] []
  f_is_word : Addr
  d_is_word : FuncData
  F_is_word : Fun K "is_word" "is_word" s_is_word f_is_word d_is_word
  g_is_word : mg "is_word" = some (.ref f_is_word)
  B_is_word : Binds K d_is_word ["value"] []
  f_is_value : Addr
  d_is_value : FuncData
  F_is_value : Fun K "is_value" "is_value" s_is_value f_is_value d_is_value
  g_is_value : mg "is_value" = some (.ref f_is_value)
  B_is_value : Binds K d_is_value ["value"] []
  f_are_pairs : Addr
  d_are_pairs : FuncData
  F_are_pairs : Fun K "are_pairs" "are_pairs" s_are_pairs f_are_pairs d_are_pairs
  g_are_pairs : mg "are_pairs" = some (.ref f_are_pairs)
  B_are_pairs : Binds K d_are_pairs ["value"] []
  f_is_map : Addr
  d_is_map : FuncData
  F_is_map : Fun K "is_map" "is_map" s_is_map f_is_map d_is_map
  g_is_map : mg "is_map" = some (.ref f_is_map)
  B_is_map : Binds K d_is_map ["value"] []
  f_pairs_of : Addr
  d_pairs_of : FuncData
  F_pairs_of : Fun K "pairs_of" "pairs_of" s_pairs_of f_pairs_of d_pairs_of
  g_pairs_of : mg "pairs_of" = some (.ref f_pairs_of)
  B_pairs_of : Binds K d_pairs_of ["entries"] []
  f_overlaid : Addr
  d_overlaid : FuncData
  F_overlaid : Fun K "overlaid" "overlaid" s_overlaid f_overlaid d_overlaid
  g_overlaid : mg "overlaid" = some (.ref f_overlaid)
  B_overlaid : Binds K d_overlaid ["lower", "upper"] []
  f_is_command : Addr
  d_is_command : FuncData
  F_is_command : Fun K "is_command" "is_command" s_is_command f_is_command d_is_command
  g_is_command : mg "is_command" = some (.ref f_is_command)
  B_is_command : Binds K d_is_command ["value"] []
  f_is_write : Addr
  d_is_write : FuncData
  F_is_write : Fun K "is_write" "is_write" s_is_write f_is_write d_is_write
  g_is_write : mg "is_write" = some (.ref f_is_write)
  B_is_write : Binds K d_is_write ["command"] []
  f_entry_of : Addr
  d_entry_of : FuncData
  F_entry_of : Fun K "entry_of" "entry_of" s_entry_of f_entry_of d_entry_of
  g_entry_of : mg "entry_of" = some (.ref f_entry_of)
  B_entry_of : Binds K d_entry_of ["command"] []
  f_first_invalid : Addr
  d_first_invalid : FuncData
  F_first_invalid : Fun K "first_invalid" "first_invalid" s_first_invalid f_first_invalid d_first_invalid
  g_first_invalid : mg "first_invalid" = some (.ref f_first_invalid)
  B_first_invalid : Binds K d_first_invalid ["value"] []
  f_need_script : Addr
  d_need_script : FuncData
  F_need_script : Fun K "need_script" "need_script" s_need_script f_need_script d_need_script
  g_need_script : mg "need_script" = some (.ref f_need_script)
  B_need_script : Binds K d_need_script ["value"] []
  f_places_in : Addr
  d_places_in : FuncData
  F_places_in : Fun K "places_in" "places_in" s_places_in f_places_in d_places_in
  g_places_in : mg "places_in" = some (.ref f_places_in)
  B_places_in : Binds K d_places_in ["pattern", "names"] []
  f_nearest_place : Addr
  d_nearest_place : FuncData
  F_nearest_place : Fun K "nearest_place" "nearest_place" s_nearest_place f_nearest_place d_nearest_place
  g_nearest_place : mg "nearest_place" = some (.ref f_nearest_place)
  B_nearest_place : Binds K d_nearest_place ["pile", "name"] []
  f_extended : Addr
  d_extended : FuncData
  F_extended : Fun K "extended" "extended" s_extended f_extended d_extended
  g_extended : mg "extended" = some (.ref f_extended)
  B_extended : Binds K d_extended ["parts", "command"] []
  f_own_places : Addr
  d_own_places : FuncData
  F_own_places : Fun K "own_places" "own_places" s_own_places f_own_places d_own_places
  g_own_places : mg "own_places" = some (.ref f_own_places)
  B_own_places : Binds K d_own_places ["pattern", "frames"] []
  f_inner_map : Addr
  d_inner_map : FuncData
  F_inner_map : Fun K "inner_map" "inner_map" s_inner_map f_inner_map d_inner_map
  g_inner_map : mg "inner_map" = some (.ref f_inner_map)
  B_inner_map : Binds K d_inner_map ["parts", "places", "source"] []
  f_frames_over : Addr
  d_frames_over : FuncData
  F_frames_over : Fun K "frames_over" "frames_over" s_frames_over f_frames_over d_frames_over
  g_frames_over : mg "frames_over" = some (.ref f_frames_over)
  B_frames_over : Binds K d_frames_over ["inner", "frames"] []
  f_composed : Addr
  d_composed : FuncData
  F_composed : Fun K "composed" "composed" s_composed f_composed d_composed
  g_composed : mg "composed" = some (.ref f_composed)
  B_composed : Binds K d_composed ["first", "second"] []
  f_is_frame : Addr
  d_is_frame : FuncData
  F_is_frame : Fun K "is_frame" "is_frame" s_is_frame f_is_frame d_is_frame
  g_is_frame : mg "is_frame" = some (.ref f_is_frame)
  B_is_frame : Binds K d_is_frame ["value"] []
  f_are_nested : Addr
  d_are_nested : FuncData
  F_are_nested : Fun K "are_nested" "are_nested" s_are_nested f_are_nested d_are_nested
  g_are_nested : mg "are_nested" = some (.ref f_are_nested)
  B_are_nested : Binds K d_are_nested ["maps"] []
  f_are_parts : Addr
  d_are_parts : FuncData
  F_are_parts : Fun K "are_parts" "are_parts" s_are_parts f_are_parts d_are_parts
  g_are_parts : mg "are_parts" = some (.ref f_are_parts)
  B_are_parts : Binds K d_are_parts ["pattern", "source", "frames", "writes"] []
  f_Plan_init : Addr
  d_Plan_init : FuncData
  F_Plan_init : FunI K "__init__" "Plan.__init__" (s_Plan_init) f_Plan_init d_Plan_init
  B_Plan_init : Binds K d_Plan_init ["self", "pattern", "source", "frames", "writes"] []
  mk_Plan : Mk K C_Plan f_Plan_init
  D0_Plan_init : DflD K d_Plan_init ["self", "pattern", "source", "frames", "writes"] [(.tup []), (.int 0), (.tup []), (.tup [])]
  f_Plan_of : Addr
  d_Plan_of : FuncData
  F_Plan_of : Fun K "of" "Plan.of" (s_Plan_of) f_Plan_of d_Plan_of
  B_Plan_of : Binds K d_Plan_of ["cls", "commands"] []
  p_Plan_of : Addr
  cr_Plan_of : ClX.CRead K C_Plan (.type "type")
  cm_Plan_of : ClX.CMet K C_Plan (.type "type") "of" p_Plan_of f_Plan_of
  f_Plan_pattern : Addr
  d_Plan_pattern : FuncData
  F_Plan_pattern : Fun K "pattern" "Plan.pattern" (s_Plan_pattern) f_Plan_pattern d_Plan_pattern
  B_Plan_pattern : Binds K d_Plan_pattern ["self"] []
  p_Plan_pattern : Addr
  pp_Plan_pattern : PropOf K C_Plan "pattern" p_Plan_pattern f_Plan_pattern
  f_Plan_source : Addr
  d_Plan_source : FuncData
  F_Plan_source : Fun K "source" "Plan.source" (s_Plan_source) f_Plan_source d_Plan_source
  B_Plan_source : Binds K d_Plan_source ["self"] []
  p_Plan_source : Addr
  pp_Plan_source : PropOf K C_Plan "source" p_Plan_source f_Plan_source
  f_Plan_frames : Addr
  d_Plan_frames : FuncData
  F_Plan_frames : Fun K "frames" "Plan.frames" (s_Plan_frames) f_Plan_frames d_Plan_frames
  B_Plan_frames : Binds K d_Plan_frames ["self"] []
  p_Plan_frames : Addr
  pp_Plan_frames : PropOf K C_Plan "frames" p_Plan_frames f_Plan_frames
  f_Plan_writes : Addr
  d_Plan_writes : FuncData
  F_Plan_writes : Fun K "writes" "Plan.writes" (s_Plan_writes) f_Plan_writes d_Plan_writes
  B_Plan_writes : Binds K d_Plan_writes ["self"] []
  p_Plan_writes : Addr
  pp_Plan_writes : PropOf K C_Plan "writes" p_Plan_writes f_Plan_writes
  f_Plan_mul : Addr
  d_Plan_mul : FuncData
  F_Plan_mul : Fun K "__mul__" "Plan.__mul__" (s_Plan_mul) f_Plan_mul d_Plan_mul
  B_Plan_mul : Binds K d_Plan_mul ["self", "other"] []
  at_Plan_mul : PySem.W.findIn K (.ref C_Plan) "__mul__" = some (some (.ref f_Plan_mul))
  fn_Plan_mul : PySem.W.isFn K (.ref f_Plan_mul) = true
  f_Plan_eq : Addr
  d_Plan_eq : FuncData
  F_Plan_eq : Fun K "__eq__" "Plan.__eq__" (s_Plan_eq) f_Plan_eq d_Plan_eq
  B_Plan_eq : Binds K d_Plan_eq ["self", "other"] []
  at_Plan_eq : PySem.W.findIn K (.ref C_Plan) "__eq__" = some (some (.ref f_Plan_eq))
  fn_Plan_eq : PySem.W.isFn K (.ref f_Plan_eq) = true
  f_own_matches : Addr
  d_own_matches : FuncData
  F_own_matches : Fun K "own_matches" "own_matches" s_own_matches f_own_matches d_own_matches
  g_own_matches : mg "own_matches" = some (.ref f_own_matches)
  B_own_matches : Binds K d_own_matches ["plan"] []
  f_need_times : Addr
  d_need_times : FuncData
  F_need_times : Fun K "need_times" "need_times" s_need_times f_need_times d_need_times
  g_need_times : mg "need_times" = some (.ref f_need_times)
  B_need_times : Binds K d_need_times ["times"] []
  f_frames_kept : Addr
  d_frames_kept : FuncData
  F_frames_kept : Fun K "frames_kept" "frames_kept" s_frames_kept f_frames_kept d_frames_kept
  g_frames_kept : mg "frames_kept" = some (.ref f_frames_kept)
  B_frames_kept : Binds K d_frames_kept ["plan", "places"] []
  f_inner_of : Addr
  d_inner_of : FuncData
  F_inner_of : Fun K "inner_of" "inner_of" s_inner_of f_inner_of d_inner_of
  g_inner_of : mg "inner_of" = some (.ref f_inner_of)
  B_inner_of : Binds K d_inner_of ["plan", "places"] []
  f_power : Addr
  d_power : FuncData
  F_power : Fun K "power" "power" s_power f_power d_power
  g_power : mg "power" = some (.ref f_power)
  B_power : Binds K d_power ["plan", "times"] []
  f_l_pen : Addr
  d_l_pen : FuncData
  F_l_pen : Fun K "_law_pen" "_law_pen" s_l_pen f_l_pen d_l_pen
  g_l_pen : mg "_law_pen" = some (.ref f_l_pen)
  B_l_pen : Binds K d_l_pen ["_law_script"] []
  f_l_draw : Addr
  d_l_draw : FuncData
  F_l_draw : Fun K "_law_draw" "_law_draw" s_l_draw f_l_draw d_l_draw
  g_l_draw : mg "_law_draw" = some (.ref f_l_draw)
  B_l_draw : Binds K d_l_draw ["_law_pen_here", "_law_bound"] []
  f_l_labels : Addr
  d_l_labels : FuncData
  F_l_labels : Fun K "_law_labels" "_law_labels" s_l_labels f_l_labels d_l_labels
  g_l_labels : mg "_law_labels" = some (.ref f_l_labels)
  B_l_labels : Binds K d_l_labels ["_law_pen_here"] []
  f_l_number : Addr
  d_l_number : FuncData
  F_l_number : Fun K "_law_number" "_law_number" s_l_number f_l_number d_l_number
  g_l_number : mg "_law_number" = some (.ref f_l_number)
  B_l_number : Binds K d_l_number ["_law_pen_here"] []
  f_l_deed : Addr
  d_l_deed : FuncData
  F_l_deed : Fun K "_law_deed" "_law_deed" s_l_deed f_l_deed d_l_deed
  g_l_deed : mg "_law_deed" = some (.ref f_l_deed)
  B_l_deed : Binds K d_l_deed ["_law_pen_here", "_law_labels_here", "_law_fields"] []
  f_l_steady : Addr
  d_l_steady : FuncData
  F_l_steady : Fun K "_law_steady" "_law_steady" s_l_steady f_l_steady d_l_steady
  g_l_steady : mg "_law_steady" = some (.ref f_l_steady)
  B_l_steady : Binds K d_l_steady ["_law_pen_here", "_law_labels_here", "_law_fields"] []
  f_l_adds : Addr
  d_l_adds : FuncData
  F_l_adds : Fun K "_law_adds" "_law_adds" s_l_adds f_l_adds d_l_adds
  g_l_adds : mg "_law_adds" = some (.ref f_l_adds)
  B_l_adds : Binds K d_l_adds ["_law_sketch", "_law_one", "_law_two"] []
  f_l_small_right : Addr
  d_l_small_right : FuncData
  F_l_small_right : Fun K "_law_small_right" "_law_small_right" s_l_small_right f_l_small_right d_l_small_right
  g_l_small_right : mg "_law_small_right" = some (.ref f_l_small_right)
  B_l_small_right : Binds K d_l_small_right ["_law_pen_here", "_law_deeds"] []
  f_l_great_right : Addr
  d_l_great_right : FuncData
  F_l_great_right : Fun K "_law_great_right" "_law_great_right" s_l_great_right f_l_great_right d_l_great_right
  g_l_great_right : mg "_law_great_right" = some (.ref f_l_great_right)
  B_l_great_right : Binds K d_l_great_right ["_law_pen_here", "_law_deeds"] []
  f_law : Addr
  d_law : FuncData
  F_law : Fun K "law" "law" s_law f_law d_law
  g_law : mg "law" = some (.ref f_law)
  B_law : Binds K d_law ["_law_script"] []
abbrev Facts.tb {K : PySem.W.Frag} {mg : Str → Option Value} (T : Facts K mg) : List (Addr × Str) := []
section
variable {P : Program} {w : World} {K : PySem.W.Frag} {mg : Str → Option Value} {base : Heap} (T : Facts K mg)
include T
theorem ok_l_draw : FnG P w K mg base 1 T.f_l_draw T.d_l_draw ["_law_pen_here", "_law_bound"] (spM ((penG.wt T.tb mg).wc false) K mg 2 drawM) := ok_draw T.F_l_draw T.z_len T.z_abs T.z_int
end
end Q24

namespace Q24
open PySem PySem.Spec L2 PL
section
variable {P : Program} {w : World} {K : PySem.W.Frag} {mg : Str → Option Value} {base : Heap} (T : Facts K mg)
include T
set_option maxHeartbeats 0 in
theorem ok_is_integer : FnG P w K mg base 1 T.f_is_integer T.d_is_integer ["value"] (spM ((penG.wt T.tb mg).wc false) K mg 1 m_is_integer) := by
  have nd := sc_is_integer.nd
  refine fn_okG (m := m_is_integer) (Sh := fun args => ∃ value : D, args = [.d value]) T.F_is_integer sc_is_integer (by decide) (fun args n P PX h => ?_) ?_
  · unfold m_is_integer at h; split at h
    all_goals first | exact ⟨_, rfl⟩ | exact False.elim h
  · rintro args ⟨value, rfl⟩ cdv A outer s H E Wx hg hr tk po
    show SG _ _ _ _ _ EnT (d_is_integer value)
    unfold d_is_integer
    exact (sg_retT (e_and (e_isi .int (T.z_isinstance) (T.z_int) (by decide +kernel) (e_nm 0)) (e_one (e_not (e_isi .bool (T.z_isinstance) (T.z_bool) (by decide +kernel) (e_nm 0))))) rfl (fun _ => rfl))
end
end Q24

namespace Q24
open PySem PySem.Spec L2 PL
section
variable {P : Program} {w : World} {K : PySem.W.Frag} {mg : Str → Option Value} {base : Heap} (T : Facts K mg)
include T
set_option maxHeartbeats 0 in
theorem ok_is_between : FnG P w K mg base 2 T.f_is_between T.d_is_between ["value", "least", "most"] (spM ((penG.wt T.tb mg).wc false) K mg 3 m_is_between) := by
  have nd := sc_is_between.nd
  refine fn_okG (m := m_is_between) (Sh := fun args => ∃ value : D, ∃ least : D, ∃ most : D, args = [.d value, .d least, .d most]) T.F_is_between sc_is_between (by decide) (fun args n P PX h => ?_) ?_
  · unfold m_is_between at h; split at h
    all_goals first | exact ⟨_, _, _, rfl⟩ | exact False.elim h
  · rintro args ⟨value, least, most, rfl⟩ cdv A outer s H E Wx hg hr tk po
    show SG _ _ _ _ _ EnT (d_is_between value least most)
    unfold d_is_between
    exact (sg_retT (e_and (e_call (ps := ["value"]) ⟨ok_is_integer T, T.g_is_integer, T.F_is_integer.kp⟩ hg (hr.mono (by decide)) tk T.B_is_integer (v_cons (e_nm 0) (v_nil))) (e_one (e_chain (cm_le) (cm_le) (e_nm 1) (e_nm 0) (e_nm 2)))) rfl (fun _ => rfl))
end
end Q24

namespace Q24
open PySem PySem.Spec L2 PL
section
variable {P : Program} {w : World} {K : PySem.W.Frag} {mg : Str → Option Value} {base : Heap} (T : Facts K mg)
include T
set_option maxHeartbeats 0 in
theorem ok_is_word : FnG P w K mg base 1 T.f_is_word T.d_is_word ["value"] (spM ((penG.wt T.tb mg).wc false) K mg 1 m_is_word) := by
  have nd := sc_is_word.nd
  refine fn_okG (m := m_is_word) (Sh := fun args => ∃ value : D, args = [.d value]) T.F_is_word sc_is_word (by decide) (fun args n P PX h => ?_) ?_
  · unfold m_is_word at h; split at h
    all_goals first | exact ⟨_, rfl⟩ | exact False.elim h
  · rintro args ⟨value, rfl⟩ cdv A outer s H E Wx hg hr tk po
    show SG _ _ _ _ _ EnT (d_is_word value)
    unfold d_is_word
    exact (sg_if ((tw_or (t_not (t_truth (e_isi .str (T.z_isinstance) (T.z_str) (by decide +kernel) (e_nm 0)))) (tw_or1 (t_not (t_chain (cm_le) (cm_le) (e_int) (e_lenI (T.z_len) (e_nm 0)) (e_gi T.c_LONGEST_WORD.choose_spec))))).t) rfl
    (sg_retP (d := (.bl false)) (e_bl) rfl rfl)
    (sg_push (sg_retT (e_all rfl (T.z_all) ((o_lcQ (own := [("sign", 1)]) (t := (.nm 1)) (f := chD) (mu := ret) (ee := (fun a ρ => ρ.set 1 (.d (chD a)))) (fun _ => rfl) (fun x ρ => setT_1 1 chD x ρ) rfl nd (w_strZ (e_nm 0)) (blkOk_by (own := [("sign", 1)]) (N := sc_is_word_N) (sc := defScope s_is_word) (by decide +kernel)) (fun _ _ _ _ _ => g_nm 1 nd) (fun _ _ _ _ _ => ts_nil) (fun _ _ _ _ _ => e_cmp (cm_inS) (e_nm 1) (e_gs T.c_LETTERS.choose_spec))).e)) rfl (fun _ => rfl))))
end
end Q24

namespace Q24
open PySem PySem.Spec L2 PL
section
variable {P : Program} {w : World} {K : PySem.W.Frag} {mg : Str → Option Value} {base : Heap} (T : Facts K mg)
include T
set_option maxHeartbeats 0 in
theorem ok_is_value : FnG P w K mg base 3 T.f_is_value T.d_is_value ["value"] (spM ((penG.wt T.tb mg).wc false) K mg 1 m_is_value) := by
  have nd := sc_is_value.nd
  refine fn_okG (m := m_is_value) (Sh := fun args => ∃ value : D, args = [.d value]) T.F_is_value sc_is_value (by decide) (fun args n P PX h => ?_) ?_
  · unfold m_is_value at h; split at h
    all_goals first | exact ⟨_, rfl⟩ | exact False.elim h
  · rintro args ⟨value, rfl⟩ cdv A outer s H E Wx hg hr tk po
    show SG _ _ _ _ _ EnT (d_is_value value)
    unfold d_is_value
    exact (sg_retT (e_call (ps := ["value", "least", "most"]) ⟨ok_is_between T, T.g_is_between, T.F_is_between.kp⟩ hg (hr.mono (by decide)) tk T.B_is_between (v_cons (e_nm 0) (v_cons (e_neg (e_gi T.c_GREATEST_VALUE.choose_spec)) (v_cons (e_gi T.c_GREATEST_VALUE.choose_spec) (v_nil))))) rfl (fun _ => rfl))
end
end Q24

namespace Q24
open PySem PySem.Spec L2 PL
section
variable {P : Program} {w : World} {K : PySem.W.Frag} {mg : Str → Option Value} {base : Heap} (T : Facts K mg)
include T
set_option maxHeartbeats 0 in
theorem ok_are_pairs : FnG P w K mg base 2 T.f_are_pairs T.d_are_pairs ["value"] (spM ((penG.wt T.tb mg).wc false) K mg 1 m_are_pairs) := by
  have nd := sc_are_pairs.nd
  refine fn_okG (m := m_are_pairs) (Sh := fun args => ∃ value : D, args = [.d value]) T.F_are_pairs sc_are_pairs (by decide) (fun args n P PX h => ?_) ?_
  · unfold m_are_pairs at h; split at h
    all_goals first | exact ⟨_, rfl⟩ | exact False.elim h
  · rintro args ⟨value, rfl⟩ cdv A outer s H E Wx hg hr tk po
    show SG _ _ _ _ _ EnT (d_are_pairs value)
    unfold d_are_pairs
    exact (sg_ifP (t_not (t_truth (e_isi .tup (T.z_isinstance) (T.z_tuple) (by decide +kernel) (e_nm 0)))) rfl
    (sg_retP (d := (.bl false)) (e_bl) rfl rfl)
    (sg_push (sg_asgP (d := (.str (Str.ofString ""))) (ρ' := [.d value, .d (.str (Str.ofString "")), .un]) 1 (e_str (x := Str.ofString "")) (g_nm 1 nd) rfl rfl (sg_forI (t := (.nm 2)) (f := (fun y : D => y)) (emb := (fun j : D => [.d value, .d j, .un])) (e := (fun a j => [.d value, .d j, .d a])) po rfl (w_seqZ (e_nm 0)) (g_nm 2 nd) rfl seqT_map id_inj (Le.same (Le.same (Le.same (Le.nil)))) (fun x j => rfl) (fun j a b h => id_inj _ _ (by have q := congrArg (·[2]?) h; exact SV.d.inj (Option.some.inj q)))
    (fun pair j => sg_if ((tw_or (t_not (t_truth (e_isi .tup (T.z_isinstance) (T.z_tuple) (by decide +kernel) (e_nm 2)))) (tw_or (t_cmp (cm_neI (u64 hr)) (e_lenI (T.z_len) (e_nm 2)) (e_int)) (tw_or (t_not (t_truth (e_call (ps := ["value"]) ⟨ok_is_word T, T.g_is_word, T.F_is_word.kp⟩ hg (hr.mono (by decide)) tk T.B_is_word (v_cons (e_ix (e_nm 2) (e_int)) (v_nil))))) (tw_or1 (t_cmp (cm_le) (e_ix (e_nm 2) (e_int)) (e_nm 1)))))).t) rfl
    (sg_retP (d := (.bl false)) (e_bl) rfl ⟨ret (.bl false), rfl, rfl⟩)
    (sg_push (sg_asg (f := (fun x => x)) (ρ' := fun last => [.d value, .d last, .d pair]) 1 3 (e_ix (e_nm 2) (e_int)) (g_nm 1 nd) rfl id_inj rfl (by decide) (fun _ => rfl) (fun last => sg_nil ⟨last, rfl, (Le.same (Le.same (Le.un (Le.nil))))⟩))))
    (fun j1 => sg_retP (d := (.bl true)) (e_bl) rfl rfl)))))
end
end Q24

namespace Q24
open PySem PySem.Spec L2 PL
section
variable {P : Program} {w : World} {K : PySem.W.Frag} {mg : Str → Option Value} {base : Heap} (T : Facts K mg)
include T
set_option maxHeartbeats 0 in
theorem ok_is_map : FnG P w K mg base 4 T.f_is_map T.d_is_map ["value"] (spM ((penG.wt T.tb mg).wc false) K mg 1 m_is_map) := by
  have nd := sc_is_map.nd
  refine fn_okG (m := m_is_map) (Sh := fun args => ∃ value : D, args = [.d value]) T.F_is_map sc_is_map (by decide) (fun args n P PX h => ?_) ?_
  · unfold m_is_map at h; split at h
    all_goals first | exact ⟨_, rfl⟩ | exact False.elim h
  · rintro args ⟨value, rfl⟩ cdv A outer s H E Wx hg hr tk po
    show SG _ _ _ _ _ EnT (d_is_map value)
    unfold d_is_map
    exact (sg_retT (e_and (e_call (ps := ["value"]) ⟨ok_are_pairs T, T.g_are_pairs, T.F_are_pairs.kp⟩ hg (hr.mono (by decide)) tk T.B_are_pairs (v_cons (e_nm 0) (v_nil))) (e_one (e_all rfl (T.z_all) ((o_lcQ (own := [("pair", 1)]) (t := (.nm 1)) (f := (fun y : D => y)) (mu := ret) (ee := (fun a ρ => ρ.set 1 (.d a))) seqT_map (fun x ρ => setT_1 1 (fun y : D => y) x ρ) rfl nd (w_seqZ (e_nm 0)) (blkOk_by (own := [("pair", 1)]) (N := sc_is_map_N) (sc := defScope s_is_map) (by decide +kernel)) (fun _ _ _ _ _ => g_nm 1 nd) (fun _ _ _ _ _ => ts_nil) (fun _ _ _ _ _ => e_or (e_cmp (cm_is) (e_ix (e_nm 1) (e_int)) (e_non)) (e_one (e_call (ps := ["value"]) ⟨ok_is_value T, T.g_is_value, T.F_is_value.kp⟩ hg (hr.mono (by decide)) L2.takes0 T.B_is_value (v_cons (e_ix (e_nm 1) (e_int)) (v_nil)))))).e)))) rfl (fun _ => rfl))
end
end Q24

namespace Q24
open PySem PySem.Spec L2 PL
section
variable {P : Program} {w : World} {K : PySem.W.Frag} {mg : Str → Option Value} {base : Heap} (T : Facts K mg)
include T
set_option maxHeartbeats 0 in
theorem ok_pairs_of : FnG P w K mg base 1 T.f_pairs_of T.d_pairs_of ["entries"] (spM ((penG.wt T.tb mg).wc false) K mg 1 m_pairs_of) := by
  have nd := sc_pairs_of.nd
  refine fn_okG (m := m_pairs_of) (Sh := fun args => ∃ entries : D, args = [.d entries]) T.F_pairs_of sc_pairs_of (by decide) (fun args n P PX h => ?_) ?_
  · unfold m_pairs_of at h; split at h
    all_goals first | exact ⟨_, rfl⟩ | exact False.elim h
  · rintro args ⟨entries, rfl⟩ cdv A outer s H E Wx hg hr tk po
    show SG _ _ _ _ _ EnT (d_pairs_of entries)
    unfold d_pairs_of
    exact (sg_retT (e_tuple (T.z_tuple) ((o_lcQ (own := [("key", 1)]) (t := (.nm 1)) (f := (fun y : D => y)) (mu := ret) (ee := (fun a ρ => ρ.set 1 (.d a))) seqT_map (fun x ρ => setT_1 1 (fun y : D => y) x ρ) rfl nd (w_seqZ ((o_sortS (T.z_sorted) ((o_listK rfl (T.z_list) (e_nm 0)).e)).e)) (blkOk_by (own := [("key", 1)]) (N := sc_pairs_of_N) (sc := defScope s_pairs_of) (by decide +kernel)) (fun _ _ _ _ _ => g_nm 1 nd) (fun _ _ _ _ _ => ts_nil) (fun _ _ _ _ _ => e_tupL (al_cons (e_nm 1) (al_cons (e_dget (u1 hr) (e_nm 0) (e_nm 1)) (al_nil))))).e)) rfl (fun _ => rfl))
end
end Q24

namespace Q24
open PySem PySem.Spec L2 PL
section
variable {P : Program} {w : World} {K : PySem.W.Frag} {mg : Str → Option Value} {base : Heap} (T : Facts K mg)
include T
set_option maxHeartbeats 0 in
theorem ok_overlaid : FnG P w K mg base 2 T.f_overlaid T.d_overlaid ["lower", "upper"] (spM ((penG.wt T.tb mg).wc false) K mg 2 m_overlaid) := by
  have nd := sc_overlaid.nd
  refine fn_okG (m := m_overlaid) (Sh := fun args => ∃ lower : D, ∃ upper : D, args = [.d lower, .d upper]) T.F_overlaid sc_overlaid (by decide) (fun args n P PX h => ?_) ?_
  · unfold m_overlaid at h; split at h
    all_goals first | exact ⟨_, _, rfl⟩ | exact False.elim h
  · rintro args ⟨lower, upper, rfl⟩ cdv A outer s H E Wx hg hr tk po
    show SG _ _ _ _ _ EnT (d_overlaid lower upper)
    unfold d_overlaid
    exact (sg_retT (e_call (ps := ["entries"]) ⟨ok_pairs_of T, T.g_pairs_of, T.F_pairs_of.kp⟩ hg (hr.mono (by decide)) tk T.B_pairs_of (v_cons ((k_over (f_dict 0 rfl (T.z_dict)) (f_dict 1 rfl (T.z_dict))).e) (v_nil))) rfl (fun _ => rfl))
end
end Q24

namespace Q24
open PySem PySem.Spec L2 PL
section
variable {P : Program} {w : World} {K : PySem.W.Frag} {mg : Str → Option Value} {base : Heap} (T : Facts K mg)
include T
set_option maxHeartbeats 0 in
theorem ok_is_command : FnG P w K mg base 4 T.f_is_command T.d_is_command ["value"] (spM ((penG.wt T.tb mg).wc false) K mg 1 m_is_command) := by
  have nd := sc_is_command.nd
  refine fn_okG (m := m_is_command) (Sh := fun args => ∃ value : D, args = [.d value]) T.F_is_command sc_is_command (by decide) (fun args n P PX h => ?_) ?_
  · unfold m_is_command at h; split at h
    all_goals first | exact ⟨_, rfl⟩ | exact False.elim h
  · rintro args ⟨value, rfl⟩ cdv A outer s H E Wx hg hr tk po
    show SG _ _ _ _ _ EnT (d_is_command value)
    unfold d_is_command
    exact (sg_if ((tw_or (t_not (t_truth (e_isi .tup (T.z_isinstance) (T.z_tuple) (by decide +kernel) (e_nm 0)))) (tw_or (t_cmp (cm_lt) (e_lenI (T.z_len) (e_nm 0)) (e_int)) (tw_or (t_not (t_truth (e_isi .str (T.z_isinstance) (T.z_str) (by decide +kernel) (e_ix (e_nm 0) (e_int))))) (tw_or1 (t_not (t_truth (e_call (ps := ["value"]) ⟨ok_is_word T, T.g_is_word, T.F_is_word.kp⟩ hg (hr.mono (by decide)) tk T.B_is_word (v_cons (e_ix (e_nm 0) (e_int)) (v_nil))))))))).t) rfl
    (sg_retP (d := (.bl false)) (e_bl) rfl rfl)
    (sg_push (sg_if (t_cmp (cm_eq (u64 hr)) (e_ix (e_nm 0) (e_int)) (e_gs T.c_SET.choose_spec)) rfl
    (sg_retT (e_and (e_cmp (cm_eqI (u64 hr)) (e_lenI (T.z_len) (e_nm 0)) (e_int)) (e_one (e_call (ps := ["value"]) ⟨ok_is_value T, T.g_is_value, T.F_is_value.kp⟩ hg (hr.mono (by decide)) tk T.B_is_value (v_cons (e_ix (e_nm 0) (e_int)) (v_nil))))) rfl (fun _ => rfl))
    (sg_push (sg_retT (e_and (e_cmp (cm_eqI (u64 hr)) (e_lenI (T.z_len) (e_nm 0)) (e_int)) (e_one (e_cmp (cm_in) (e_ix (e_nm 0) (e_int)) (e_tupL (al_cons (e_gs T.c_DEL.choose_spec) (al_cons (e_gs T.c_MARK.choose_spec) (al_cons (e_gs T.c_BACK.choose_spec) (al_cons (e_gs T.c_KEEP.choose_spec) (al_nil))))))))) rfl (fun _ => rfl))))))
end
end Q24

namespace Q24
open PySem PySem.Spec L2 PL
section
variable {P : Program} {w : World} {K : PySem.W.Frag} {mg : Str → Option Value} {base : Heap} (T : Facts K mg)
include T
set_option maxHeartbeats 0 in
theorem ok_is_write : FnG P w K mg base 1 T.f_is_write T.d_is_write ["command"] (spM ((penG.wt T.tb mg).wc false) K mg 1 m_is_write) := by
  have nd := sc_is_write.nd
  refine fn_okG (m := m_is_write) (Sh := fun args => ∃ command : D, args = [.d command]) T.F_is_write sc_is_write (by decide) (fun args n P PX h => ?_) ?_
  · unfold m_is_write at h; split at h
    all_goals first | exact ⟨_, rfl⟩ | exact False.elim h
  · rintro args ⟨command, rfl⟩ cdv A outer s H E Wx hg hr tk po
    show SG _ _ _ _ _ EnT (d_is_write command)
    unfold d_is_write
    exact (sg_retT (e_cmp (cm_in) (e_ix (e_nm 0) (e_int)) (e_tupL (al_cons (e_gs T.c_SET.choose_spec) (al_cons (e_gs T.c_DEL.choose_spec) (al_nil))))) rfl (fun _ => rfl))
end
end Q24

namespace Q24
open PySem PySem.Spec L2 PL
section
variable {P : Program} {w : World} {K : PySem.W.Frag} {mg : Str → Option Value} {base : Heap} (T : Facts K mg)
include T
set_option maxHeartbeats 0 in
theorem ok_entry_of : FnG P w K mg base 1 T.f_entry_of T.d_entry_of ["command"] (spM ((penG.wt T.tb mg).wc false) K mg 1 m_entry_of) := by
  have nd := sc_entry_of.nd
  refine fn_okG (m := m_entry_of) (Sh := fun args => ∃ command : D, args = [.d command]) T.F_entry_of sc_entry_of (by decide) (fun args n P PX h => ?_) ?_
  · unfold m_entry_of at h; split at h
    all_goals first | exact ⟨_, rfl⟩ | exact False.elim h
  · rintro args ⟨command, rfl⟩ cdv A outer s H E Wx hg hr tk po
    show SG _ _ _ _ _ EnT (d_entry_of command)
    unfold d_entry_of
    exact (sg_retT (e_if (t_cmp (cm_eq (u64 hr)) (e_ix (e_nm 0) (e_int)) (e_gs T.c_SET.choose_spec)) (e_ix (e_nm 0) (e_int)) (e_non)) rfl (fun _ => rfl))
end
end Q24

namespace Q24
open PySem PySem.Spec L2 PL
section
variable {P : Program} {w : World} {K : PySem.W.Frag} {mg : Str → Option Value} {base : Heap} (T : Facts K mg)
include T
set_option maxHeartbeats 0 in
theorem ok_first_invalid : FnG P w K mg base 5 T.f_first_invalid T.d_first_invalid ["value"] (spM ((penG.wt T.tb mg).wc false) K mg 1 m_first_invalid) := by
  have nd := sc_first_invalid.nd
  refine fn_okG (m := m_first_invalid) (Sh := fun args => ∃ value : D, args = [.d value]) T.F_first_invalid sc_first_invalid (by decide) (fun args n P PX h => ?_) ?_
  · unfold m_first_invalid at h; split at h
    all_goals first | exact ⟨_, rfl⟩ | exact False.elim h
  · rintro args ⟨value, rfl⟩ cdv A outer s H E Wx hg hr tk po
    show SG _ _ _ _ _ EnT (d_first_invalid value)
    unfold d_first_invalid
    exact (sg_if ((tw_or (t_not (t_truth (e_isis (ts := [.tup, .lst]) (T.z_isinstance) (cl_cons .tup (T.z_tuple) (by decide +kernel) (cl_cons .lst (T.z_list) (by decide +kernel) (cl_nil))) (e_nm 0)))) (tw_or1 (t_cmp (cm_gt) (e_lenI (T.z_len) (e_nm 0)) (e_gi T.c_MOST_COMMANDS.choose_spec)))).t) rfl
    (sg_retP (d := (.tup [.non])) (e_tupL (al_cons (e_non) (al_nil))) rfl rfl)
    (sg_push (sg_forI (t := (.tp [.nm 1, .nm 2])) (f := eT) (emb := (fun j : Unit => [.d value, .un, .un])) (e := (fun a j => [.d value, .d (.int a.1), .d a.2])) po rfl (w_enumZ (T.z_enumerate) (e_nm 0)) (g_tp rfl (gs_cons (g_nm 1 nd) (gs_cons (g_nm 2 nd) (gs_nil)))) rfl (fun _ => rfl) eT_inj (Le.same (Le.same (Le.same (Le.nil)))) (fun x j => (setT_e 1 2) x _) (fun j a b h => Prod.ext (by have q := congrArg (·[1]?) h; exact int_inj _ _ (SV.d.inj (Option.some.inj q))) (by have q := congrArg (·[2]?) h; exact SV.d.inj (Option.some.inj q)))
    (fun p j => sg_if (t_not (t_truth (e_call (ps := ["value"]) ⟨ok_is_command T, T.g_is_command, T.F_is_command.kp⟩ hg (hr.mono (by decide)) tk T.B_is_command (v_cons (e_nm 2) (v_nil))))) rfl
    (sg_retP (d := (.tup [(.int p.1)])) (e_tupL (al_cons (e_nm 1) (al_nil))) rfl ⟨ret (.tup [(.int p.1)]), rfl, rfl⟩)
    (sg_push (sg_nil ⟨(), rfl, (Le.same (Le.un (Le.un (Le.nil))))⟩)))
    (fun j1 => sg_retP (d := (.tup [])) (e_tupL (al_nil)) rfl rfl))))
end
end Q24

namespace Q24
open PySem PySem.Spec L2 PL
section
variable {P : Program} {w : World} {K : PySem.W.Frag} {mg : Str → Option Value} {base : Heap} (T : Facts K mg)
include T
set_option maxHeartbeats 0 in
theorem ok_need_script : FnG P w K mg base 6 T.f_need_script T.d_need_script ["value"] (spM ((penG.wt T.tb mg).wc false) K mg 1 m_need_script) := by
  have nd := sc_need_script.nd
  refine fn_okG (m := m_need_script) (Sh := fun args => ∃ value : D, args = [.d value]) T.F_need_script sc_need_script (by decide) (fun args n P PX h => ?_) ?_
  · unfold m_need_script at h; split at h
    all_goals first | exact ⟨_, rfl⟩ | exact False.elim h
  · rintro args ⟨value, rfl⟩ cdv A outer s H E Wx hg hr tk po
    show SG _ _ _ _ _ EnT (d_need_script value)
    unfold d_need_script
    exact (sg_asg (f := (fun x => x)) (ρ' := fun wrong => [.d value, .d wrong]) 1 2 (e_call (ps := ["value"]) ⟨ok_first_invalid T, T.g_first_invalid, T.F_first_invalid.kp⟩ hg (hr.mono (by decide)) tk T.B_first_invalid (v_cons (e_nm 0) (v_nil))) (g_nm 1 nd) rfl id_inj rfl (by decide) (fun _ => rfl) (fun wrong => sg_if (t_cmp (cm_ne (u64 hr)) (e_nm 1) (e_tupL (al_nil))) rfl
    (sg_raise1 T.er_InvalidScript rfl (hr.mono (by decide)) tk (e_ix (e_nm 1) (e_int)) rfl rfl)
    (sg_push (sg_nil rfl))))
end
end Q24

namespace Q24
open PySem PySem.Spec L2 PL
section
variable {P : Program} {w : World} {K : PySem.W.Frag} {mg : Str → Option Value} {base : Heap} (T : Facts K mg)
include T
set_option maxHeartbeats 0 in
theorem ok_places_in : FnG P w K mg base 1 T.f_places_in T.d_places_in ["pattern", "names"] (spM ((penG.wt T.tb mg).wc false) K mg 2 m_places_in) := by
  have nd := sc_places_in.nd
  refine fn_okG (m := m_places_in) (Sh := fun args => ∃ pattern : D, ∃ names : D, args = [.d pattern, .d names]) T.F_places_in sc_places_in (by decide) (fun args n P PX h => ?_) ?_
  · unfold m_places_in at h; split at h
    all_goals first | exact ⟨_, _, rfl⟩ | exact False.elim h
  · rintro args ⟨pattern, names, rfl⟩ cdv A outer s H E Wx hg hr tk po
    show SG _ _ _ _ _ EnT (d_places_in pattern names)
    unfold d_places_in
    exact (sg_ownP (d := []) (ρ' := [.d pattern, .d names, .own [], .un, .un]) 2 (o_lstL (al_nil)) nd rfl rfl (sg_forI (t := (.tp [.nm 3, .nm 4])) (f := eT) (emb := (fun j : List D => [.d pattern, .d names, .own j, .un, .un])) (e := (fun a j => [.d pattern, .d names, .own j, .d (.int a.1), .d a.2])) po rfl (w_enumZ (T.z_enumerate) (e_nm 1)) (g_tp rfl (gs_cons (g_nm 3 nd) (gs_cons (g_nm 4 nd) (gs_nil)))) rfl (fun _ => rfl) eT_inj (Le.same (Le.same (Le.same (Le.same (Le.same (Le.nil)))))) (fun x j => (setT_e 3 4) x _) (fun j a b h => Prod.ext (by have q := congrArg (·[3]?) h; exact int_inj _ _ (SV.d.inj (Option.some.inj q))) (by have q := congrArg (·[4]?) h; exact SV.d.inj (Option.some.inj q)))
    (fun p j => sg_if (t_cmp (cm_eqI (u64 hr)) (e_lenI (T.z_len) (e_nm 2)) (e_lenI (T.z_len) (e_nm 0))) rfl
    (sg_retP (d := (.lst j)) (e_nm 2) rfl ⟨ret (.lst j), rfl, rfl⟩)
    (sg_push (sg_if (t_cmp (cm_eq (u64 hr)) (e_nm 4) (e_ix (e_nm 0) (e_lenI (T.z_len) (e_nm 2)))) rfl
    (sg_appP (d := (.int p.1)) (ρ' := [.d pattern, .d names, .own (j ++ [(.int p.1)]), .d (.int p.1), .d p.2]) (xs := j) 2 5 (e_nm 3) rfl rfl rfl (by decide) rfl (sg_push (sg_nil ⟨(j ++ [(.int p.1)]), rfl, (Le.same (Le.same (Le.same (Le.un (Le.un (Le.nil))))))⟩)))
    (sg_push (sg_nil ⟨j, rfl, (Le.same (Le.same (Le.same (Le.un (Le.un (Le.nil))))))⟩)))))
    (fun j1 => sg_retP (d := (.lst j1)) (e_nm 2) rfl rfl)))
end
end Q24

namespace Q24
open PySem PySem.Spec L2 PL
section
variable {P : Program} {w : World} {K : PySem.W.Frag} {mg : Str → Option Value} {base : Heap} (T : Facts K mg)
include T
set_option maxHeartbeats 0 in
theorem ok_nearest_place : FnG P w K mg base 1 T.f_nearest_place T.d_nearest_place ["pile", "name"] (spM ((penG.wt T.tb mg).wc false) K mg 2 m_nearest_place) := by
  have nd := sc_nearest_place.nd
  refine fn_okG (m := m_nearest_place) (Sh := fun args => ∃ pile : D, ∃ name : D, args = [.d pile, .d name]) T.F_nearest_place sc_nearest_place (by decide) (fun args n P PX h => ?_) ?_
  · unfold m_nearest_place at h; split at h
    all_goals first | exact ⟨_, _, rfl⟩ | exact False.elim h
  · rintro args ⟨pile, name, rfl⟩ cdv A outer s H E Wx hg hr tk po
    show SG _ _ _ _ _ EnT (d_nearest_place pile name)
    unfold d_nearest_place
    exact (sg_forI (t := (.nm 2)) (f := D.int) (emb := (fun j : Unit => [.d pile, .d name, .un])) (e := (fun a j => [.d pile, .d name, .d (.int a)])) po rfl (w_rngMZ (T.z_range) (e_sub (e_lenI (T.z_len) (e_nm 0)) (e_int)) (e_neg (e_int)) (e_neg (e_int)) (fun _ => rfl)) (g_nm 2 nd) rfl (fun _ => rfl) int_inj (Le.same (Le.same (Le.same (Le.nil)))) (fun x j => rfl) (fun j a b h => int_inj _ _ (by have q := congrArg (·[2]?) h; exact SV.d.inj (Option.some.inj q)))
    (fun place j => sg_if (t_cmp (cm_eq (u64 hr)) (e_ix (e_ix (e_nm 0) (e_nm 2)) (e_int)) (e_nm 1)) rfl
    (sg_retP (d := (.int place)) (e_nm 2) rfl ⟨ret (.int place), rfl, rfl⟩)
    (sg_push (sg_nil ⟨(), rfl, (Le.same (Le.same (Le.un (Le.nil))))⟩)))
    (fun j1 => sg_retP (d := .non) (e_non) rfl rfl))
end
end Q24

namespace Q24
open PySem PySem.Spec L2 PL
section
variable {P : Program} {w : World} {K : PySem.W.Frag} {mg : Str → Option Value} {base : Heap} (T : Facts K mg)
include T
set_option maxHeartbeats 0 in
theorem ok_extended : FnG P w K mg base 3 T.f_extended T.d_extended ["parts", "command"] (spM ((penG.wt T.tb mg).wc false) K mg 2 m_extended) := by
  have nd := sc_extended.nd
  refine fn_okG (m := m_extended) (Sh := fun args => ∃ parts : D, ∃ command : D, args = [.d parts, .d command]) T.F_extended sc_extended (by decide) (fun args n P PX h => ?_) ?_
  · unfold m_extended at h; split at h
    all_goals first | exact ⟨_, _, rfl⟩ | exact False.elim h
  · rintro args ⟨parts, command, rfl⟩ cdv A outer s H E Wx hg hr tk po
    show SG _ _ _ _ _ EnT (d_extended parts command)
    unfold d_extended
    exact (sg_asg4 (ρ' := fun p => [.d parts, .d command, .d p.1, .d p.2.1, .d p.2.2.1, .d p.2.2.2, .un, .un]) 2 3 4 5 (e_nm 0) (g_tp rfl (gs_cons (g_nm 2 nd) (gs_cons (g_nm 3 nd) (gs_cons (g_nm 4 nd) (gs_cons (g_nm 5 nd) (gs_nil)))))) rfl (fun _ => rfl) (fun a b h => Prod.ext (by have q := congrArg (·[2]?) h; exact SV.d.inj (Option.some.inj q)) (Prod.ext (by have q := congrArg (·[3]?) h; exact SV.d.inj (Option.some.inj q)) (Prod.ext (by have q := congrArg (·[4]?) h; exact SV.d.inj (Option.some.inj q)) (by have q := congrArg (·[5]?) h; exact SV.d.inj (Option.some.inj q))))) (fun p => sg_if (t_truth (e_call (ps := ["command"]) ⟨ok_is_write T, T.g_is_write, T.F_is_write.kp⟩ hg (hr.mono (by decide)) tk T.B_is_write (v_cons (e_nm 1) (v_nil)))) rfl
    (sg_retT (e_tupL (al_cons (e_nm 2) (al_cons (e_nm 3) (al_cons (e_nm 4) (al_cons (e_call (ps := ["lower", "upper"]) ⟨ok_overlaid T, T.g_overlaid, T.F_overlaid.kp⟩ hg (hr.mono (by decide)) tk T.B_overlaid (v_cons (e_nm 5) (v_cons (e_tupL (al_cons (e_tupL (al_cons (e_ix (e_nm 1) (e_int)) (al_cons (e_call (ps := ["command"]) ⟨ok_entry_of T, T.g_entry_of, T.F_entry_of.kp⟩ hg (hr.mono (by decide)) tk T.B_entry_of (v_cons (e_nm 1) (v_nil))) (al_nil)))) (al_nil))) (v_nil)))) (al_nil)))))) rfl (fun _ => rfl))
    (sg_push (sg_asg (f := (fun x => x)) (ρ' := fun name => [.d parts, .d command, .d p.1, .d p.2.1, .d p.2.2.1, .d p.2.2.2, .d name, .un]) 6 8 (e_ix (e_nm 1) (e_int)) (g_nm 6 nd) rfl id_inj rfl (by decide) (fun _ => rfl) (fun name => sg_if (t_cmp (cm_eq (u64 hr)) (e_ix (e_nm 1) (e_int)) (e_gs T.c_MARK.choose_spec)) rfl
    (sg_retT (e_tupL (al_cons (e_nm 2) (al_cons (e_nm 3) (al_cons (e_add (e_nm 4) (e_tupL (al_cons (e_tupL (al_cons (e_nm 6) (al_cons (e_nm 5) (al_nil)))) (al_nil)))) (al_cons (e_nm 5) (al_nil)))))) rfl (fun _ => rfl))
    (sg_push (sg_asg (f := (fun x => x)) (ρ' := fun place => [.d parts, .d command, .d p.1, .d p.2.1, .d p.2.2.1, .d p.2.2.2, .d name, .d place]) 7 8 (e_call (ps := ["pile", "name"]) ⟨ok_nearest_place T, T.g_nearest_place, T.F_nearest_place.kp⟩ hg (hr.mono (by decide)) tk T.B_nearest_place (v_cons (e_nm 4) (v_cons (e_nm 6) (v_nil)))) (g_nm 7 nd) rfl id_inj rfl (by decide) (fun _ => rfl) (fun place => sg_if (t_cmp (cm_eq (u64 hr)) (e_ix (e_nm 1) (e_int)) (e_gs T.c_BACK.choose_spec)) rfl
    (sg_ifP (t_cmp (cm_is) (e_nm 7) (e_non)) rfl
    (sg_retT (e_tupL (al_cons (e_add (e_nm 2) (e_tupL (al_cons (e_nm 6) (al_nil)))) (al_cons (e_add (e_lenI (T.z_len) (e_nm 2)) (e_int)) (al_cons (e_tupL (al_cons (e_tupL (al_cons (e_nm 6) (al_cons (e_tupL (al_nil)) (al_nil)))) (al_nil))) (al_cons (e_tupL (al_nil)) (al_nil)))))) rfl (fun _ => rfl))
    (sg_push (sg_retT (e_tupL (al_cons (e_nm 2) (al_cons (e_nm 3) (al_cons (e_sl (e_nm 4) (p_none) (p_some (e_add (e_asI (e_nm 7)) (e_int)))) (al_cons (e_ix (e_ix (e_nm 4) (e_asI (e_nm 7))) (e_int)) (al_nil)))))) rfl (fun _ => rfl))))
    (sg_push (sg_ifP (t_cmp (cm_is) (e_nm 7) (e_non)) rfl
    (sg_retT (e_tupL (al_cons (e_add (e_nm 2) (e_tupL (al_cons (e_nm 6) (al_nil)))) (al_cons (e_nm 3) (al_cons (e_tupL (al_nil)) (al_cons (e_nm 5) (al_nil)))))) rfl (fun _ => rfl))
    (sg_push (sg_retT (e_tupL (al_cons (e_nm 2) (al_cons (e_nm 3) (al_cons (e_sl (e_nm 4) (p_none) (p_some (e_asI (e_nm 7)))) (al_cons (e_nm 5) (al_nil)))))) rfl (fun _ => rfl)))))))))))))
end
end Q24

namespace Q24
open PySem PySem.Spec L2 PL
section
variable {P : Program} {w : World} {K : PySem.W.Frag} {mg : Str → Option Value} {base : Heap} (T : Facts K mg)
include T
set_option maxHeartbeats 0 in
theorem ok_own_places : FnG P w K mg base 2 T.f_own_places T.d_own_places ["pattern", "frames"] (spM ((penG.wt T.tb mg).wc false) K mg 2 m_own_places) := by
  have nd := sc_own_places.nd
  refine fn_okG (m := m_own_places) (Sh := fun args => ∃ pattern : D, ∃ frames : D, args = [.d pattern, .d frames]) T.F_own_places sc_own_places (by decide) (fun args n P PX h => ?_) ?_
  · unfold m_own_places at h; split at h
    all_goals first | exact ⟨_, _, rfl⟩ | exact False.elim h
  · rintro args ⟨pattern, frames, rfl⟩ cdv A outer s H E Wx hg hr tk po
    show SG _ _ _ _ _ EnT (d_own_places pattern frames)
    unfold d_own_places
    exact (sg_asg (f := .int) (ρ' := fun last => [.d pattern, .d frames, .d (.int last), .un, .un]) 2 5 (e_sub (e_lenI (T.z_len) (e_nm 1)) (e_int)) (g_nm 2 nd) rfl int_inj rfl (by decide) (fun _ => rfl) (fun last => sg_retT ((o_lcQ (own := [("place", 3)]) (t := (.nm 3)) (f := (fun y : D => y)) (mu := ret) (ee := (fun a ρ => ρ.set 3 (.d a))) seqT_map (fun x ρ => setT_1 3 (fun y : D => y) x ρ) rfl nd (w_seqZ (e_call (ps := ["pattern", "names"]) ⟨ok_places_in T, T.g_places_in, T.F_places_in.kp⟩ hg (hr.mono (by decide)) tk T.B_places_in (v_cons (e_nm 0) (v_cons ((o_lcQ (own := [("frame", 4)]) (t := (.nm 4)) (f := (fun y : D => y)) (mu := ret) (ee := (fun a ρ => ρ.set 4 (.d a))) seqT_map (fun x ρ => setT_1 4 (fun y : D => y) x ρ) rfl nd (w_seqZ (e_rev (e_nm 1))) (blkOk_by (own := [("frame", 4)]) (N := sc_own_places_N) (sc := defScope s_own_places) (by decide +kernel)) (fun _ _ _ _ _ => g_nm 4 nd) (fun _ _ _ _ _ => ts_nil) (fun _ _ _ _ _ => e_ix (e_nm 4) (e_int))).e) (v_nil))))) (blkOk_by (own := [("place", 3)]) (N := sc_own_places_N) (sc := defScope s_own_places) (by decide +kernel)) (fun _ _ _ _ _ => g_nm 3 nd) (fun _ _ _ _ _ => ts_nil) (fun _ _ _ _ _ => e_sub (e_nm 2) (e_asI (e_nm 3)))).e) rfl (fun _ => rfl)))
end
end Q24

namespace Q24
open PySem PySem.Spec L2 PL
section
variable {P : Program} {w : World} {K : PySem.W.Frag} {mg : Str → Option Value} {base : Heap} (T : Facts K mg)
include T
set_option maxHeartbeats 0 in
theorem ok_inner_map : FnG P w K mg base 1 T.f_inner_map T.d_inner_map ["parts", "places", "source"] (spM ((penG.wt T.tb mg).wc false) K mg 3 m_inner_map) := by
  have nd := sc_inner_map.nd
  refine fn_okG (m := m_inner_map) (Sh := fun args => ∃ parts : D, ∃ places : D, ∃ source : D, args = [.d parts, .d places, .d source]) T.F_inner_map sc_inner_map (by decide) (fun args n P PX h => ?_) ?_
  · unfold m_inner_map at h; split at h
    all_goals first | exact ⟨_, _, _, rfl⟩ | exact False.elim h
  · rintro args ⟨parts, places, source, rfl⟩ cdv A outer s H E Wx hg hr tk po
    show SG _ _ _ _ _ EnT (d_inner_map parts places source)
    unfold d_inner_map
    exact (sg_if (t_cmp (cm_eq (u64 hr)) (e_nm 2) (e_int)) rfl
    (sg_retT (e_ix (e_nm 0) (e_int)) rfl (fun _ => rfl))
    (sg_push (sg_retT (e_if (t_cmp (cm_le) (e_asI (e_nm 2)) (e_lenI (T.z_len) (e_nm 1))) (e_ix (e_ix (e_ix (e_nm 0) (e_int)) (e_asI (e_ix (e_nm 1) (e_sub (e_asI (e_nm 2)) (e_int))))) (e_int)) (e_tupL (al_nil))) rfl (fun _ => rfl))))
end
end Q24

namespace Q24
open PySem PySem.Spec L2 PL
section
variable {P : Program} {w : World} {K : PySem.W.Frag} {mg : Str → Option Value} {base : Heap} (T : Facts K mg)
include T
set_option maxHeartbeats 0 in
theorem ok_frames_over : FnG P w K mg base 3 T.f_frames_over T.d_frames_over ["inner", "frames"] (spM ((penG.wt T.tb mg).wc false) K mg 2 m_frames_over) := by
  have nd := sc_frames_over.nd
  refine fn_okG (m := m_frames_over) (Sh := fun args => ∃ inner : D, ∃ frames : D, args = [.d inner, .d frames]) T.F_frames_over sc_frames_over (by decide) (fun args n P PX h => ?_) ?_
  · unfold m_frames_over at h; split at h
    all_goals first | exact ⟨_, _, rfl⟩ | exact False.elim h
  · rintro args ⟨inner, frames, rfl⟩ cdv A outer s H E Wx hg hr tk po
    show SG _ _ _ _ _ EnT (d_frames_over inner frames)
    unfold d_frames_over
    exact (sg_retT (e_tuple (T.z_tuple) ((o_lcQ (own := [("name", 2), ("change", 3)]) (t := (.tp [.nm 2, .nm 3])) (f := (fun y : D => y)) (mu := unp2) (ee := (fun a ρ => (ρ.set 2 (.d a.1)).set 3 (.d a.2))) seqT_map (setT_tp2 2 3) rfl nd (w_seqZ (e_nm 1)) (blkOk_by (own := [("name", 2), ("change", 3)]) (N := sc_frames_over_N) (sc := defScope s_frames_over) (by decide +kernel)) (fun _ _ _ _ _ => g_tp rfl (gs_cons (g_nm 2 nd) (gs_cons (g_nm 3 nd) (gs_nil)))) (fun _ _ _ _ _ => ts_nil) (fun _ _ _ _ _ => e_tupL (al_cons (e_nm 2) (al_cons (e_call (ps := ["lower", "upper"]) ⟨ok_overlaid T, T.g_overlaid, T.F_overlaid.kp⟩ hg (hr.mono (by decide)) L2.takes0 T.B_overlaid (v_cons (e_nm 0) (v_cons (e_nm 3) (v_nil)))) (al_nil))))).e)) rfl (fun _ => rfl))
end
end Q24

namespace Q24
open PySem PySem.Spec L2 PL
section
variable {P : Program} {w : World} {K : PySem.W.Frag} {mg : Str → Option Value} {base : Heap} (T : Facts K mg)
include T
set_option maxHeartbeats 0 in
theorem ok_composed : FnG P w K mg base 4 T.f_composed T.d_composed ["first", "second"] (spM ((penG.wt T.tb mg).wc false) K mg 2 m_composed) := by
  have nd := sc_composed.nd
  refine fn_okG (m := m_composed) (Sh := fun args => ∃ first : D, ∃ second : D, args = [.d first, .d second]) T.F_composed sc_composed (by decide) (fun args n P PX h => ?_) ?_
  · unfold m_composed at h; split at h
    all_goals first | exact ⟨_, _, rfl⟩ | exact False.elim h
  · rintro args ⟨first, second, rfl⟩ cdv A outer s H E Wx hg hr tk po
    show SG _ _ _ _ _ EnT (d_composed first second)
    unfold d_composed
    exact (sg_asg4 (ρ' := fun p => [.d first, .d second, .d p.1, .d p.2.1, .d p.2.2.1, .d p.2.2.2, .un, .un, .un, .un, .un, .un]) 2 3 4 5 (e_nm 0) (g_tp rfl (gs_cons (g_nm 2 nd) (gs_cons (g_nm 3 nd) (gs_cons (g_nm 4 nd) (gs_cons (g_nm 5 nd) (gs_nil)))))) rfl (fun _ => rfl) (fun a b h => Prod.ext (by have q := congrArg (·[2]?) h; exact SV.d.inj (Option.some.inj q)) (Prod.ext (by have q := congrArg (·[3]?) h; exact SV.d.inj (Option.some.inj q)) (Prod.ext (by have q := congrArg (·[4]?) h; exact SV.d.inj (Option.some.inj q)) (by have q := congrArg (·[5]?) h; exact SV.d.inj (Option.some.inj q))))) (fun p => sg_asg (f := (fun x => x)) (ρ' := fun places => [.d first, .d second, .d p.1, .d p.2.1, .d p.2.2.1, .d p.2.2.2, .d places, .un, .un, .un, .un, .un]) 6 12 (e_call (ps := ["pattern", "frames"]) ⟨ok_own_places T, T.g_own_places, T.F_own_places.kp⟩ hg (hr.mono (by decide)) tk T.B_own_places (v_cons (e_ix (e_nm 1) (e_int)) (v_cons (e_nm 4) (v_nil)))) (g_nm 6 nd) rfl id_inj rfl (by decide) (fun _ => rfl) (fun places => sg_asg (f := (fun x => x)) (ρ' := fun inner => [.d first, .d second, .d p.1, .d p.2.1, .d p.2.2.1, .d p.2.2.2, .d places, .d inner, .un, .un, .un, .un]) 7 12 (e_call (ps := ["parts", "places", "source"]) ⟨ok_inner_map T, T.g_inner_map, T.F_inner_map.kp⟩ hg (hr.mono (by decide)) tk T.B_inner_map (v_cons (e_nm 0) (v_cons (e_nm 6) (v_cons (e_ix (e_nm 1) (e_int)) (v_nil))))) (g_nm 7 nd) rfl id_inj rfl (by decide) (fun _ => rfl) (fun inner => sg_asg (f := (fun x => x)) (ρ' := fun added => [.d first, .d second, .d p.1, .d p.2.1, .d p.2.2.1, .d p.2.2.2, .d places, .d inner, .d added, .un, .un, .un]) 8 12 (e_call (ps := ["inner", "frames"]) ⟨ok_frames_over T, T.g_frames_over, T.F_frames_over.kp⟩ hg (hr.mono (by decide)) tk T.B_frames_over (v_cons (e_nm 7) (v_cons (e_ix (e_nm 1) (e_int)) (v_nil)))) (g_nm 8 nd) rfl id_inj rfl (by decide) (fun _ => rfl) (fun added => sg_asg (f := (fun x => x)) (ρ' := fun final => [.d first, .d second, .d p.1, .d p.2.1, .d p.2.2.1, .d p.2.2.2, .d places, .d inner, .d added, .d final, .un, .un]) 9 12 (e_call (ps := ["lower", "upper"]) ⟨ok_overlaid T, T.g_overlaid, T.F_overlaid.kp⟩ hg (hr.mono (by decide)) tk T.B_overlaid (v_cons (e_nm 7) (v_cons (e_ix (e_nm 1) (e_int)) (v_nil)))) (g_nm 9 nd) rfl id_inj rfl (by decide) (fun _ => rfl) (fun final => sg_asg (f := .int) (ρ' := fun many => [.d first, .d second, .d p.1, .d p.2.1, .d p.2.2.1, .d p.2.2.2, .d places, .d inner, .d added, .d final, .d (.int many), .un]) 10 12 (e_lenI (T.z_len) (e_nm 6)) (g_nm 10 nd) rfl int_inj rfl (by decide) (fun _ => rfl) (fun many => sg_if (t_cmp (cm_eqI (u64 hr)) (e_nm 10) (e_lenI (T.z_len) (e_ix (e_nm 1) (e_int)))) rfl
    (sg_asg (f := (fun x => x)) (ρ' := fun below => [.d first, .d second, .d p.1, .d p.2.1, .d p.2.2.1, .d p.2.2.2, .d places, .d inner, .d added, .d final, .d (.int many), .d below]) 11 12 (e_if (t_cmp (cm_eqI (u64 hr)) (e_nm 10) (e_int)) (e_nm 4) (e_sl (e_nm 4) (p_none) (p_some (e_asI (e_ix (e_nm 6) (e_neg (e_int))))))) (g_nm 11 nd) rfl id_inj rfl (by decide) (fun _ => rfl) (fun below => sg_retT (e_tupL (al_cons (e_nm 2) (al_cons (e_nm 3) (al_cons (e_add (e_nm 11) (e_nm 8)) (al_cons (e_nm 9) (al_nil)))))) rfl (fun _ => rfl)))
    (sg_push (sg_ifA (emb := (fun j : D => [.d first, .d second, .d p.1, .d j, .d p.2.2.1, .d p.2.2.2, .d places, .d inner, .d added, .d final, .d (.int many), .un])) (t_cmp (cm_gt) (e_asI (e_ix (e_nm 1) (e_int))) (e_nm 10)) rfl
    (sg_asg (f := .int) (ρ' := fun source => [.d first, .d second, .d p.1, .d (.int source), .d p.2.2.1, .d p.2.2.2, .d places, .d inner, .d added, .d final, .d (.int many), .un]) 3 12 (e_sub (e_add (e_lenI (T.z_len) (e_nm 2)) (e_asI (e_ix (e_nm 1) (e_int)))) (e_nm 10)) (g_nm 3 nd) rfl int_inj rfl (by decide) (fun _ => rfl) (fun source => sg_nil ⟨(.int source), rfl, (Le.same (Le.same (Le.same (Le.same (Le.same (Le.same (Le.same (Le.same (Le.same (Le.same (Le.same (Le.same (Le.nil)))))))))))))⟩))
    (sg_nil ⟨p.2.1, rfl, (Le.same (Le.same (Le.same (Le.same (Le.same (Le.same (Le.same (Le.same (Le.same (Le.same (Le.same (Le.same (Le.nil)))))))))))))⟩)
    (fun j => sg_retT (e_tupL (al_cons (e_add (e_nm 2) (e_sl (e_ix (e_nm 1) (e_int)) (p_some (e_nm 10)) (p_none))) (al_cons (e_nm 3) (al_cons (e_nm 8) (al_cons (e_nm 9) (al_nil)))))) rfl (fun _ => rfl)))))))))))
end
end Q24

namespace Q24
open PySem PySem.Spec L2 PL
section
variable {P : Program} {w : World} {K : PySem.W.Frag} {mg : Str → Option Value} {base : Heap} (T : Facts K mg)
include T
set_option maxHeartbeats 0 in
theorem ok_is_frame : FnG P w K mg base 5 T.f_is_frame T.d_is_frame ["value"] (spM ((penG.wt T.tb mg).wc false) K mg 1 m_is_frame) := by
  have nd := sc_is_frame.nd
  refine fn_okG (m := m_is_frame) (Sh := fun args => ∃ value : D, args = [.d value]) T.F_is_frame sc_is_frame (by decide) (fun args n P PX h => ?_) ?_
  · unfold m_is_frame at h; split at h
    all_goals first | exact ⟨_, rfl⟩ | exact False.elim h
  · rintro args ⟨value, rfl⟩ cdv A outer s H E Wx hg hr tk po
    show SG _ _ _ _ _ EnT (d_is_frame value)
    unfold d_is_frame
    exact (sg_retT (e_and (e_isi .tup (T.z_isinstance) (T.z_tuple) (by decide +kernel) (e_nm 0)) (e_and (e_cmp (cm_eqI (u64 hr)) (e_lenI (T.z_len) (e_nm 0)) (e_int)) (e_and (e_call (ps := ["value"]) ⟨ok_is_word T, T.g_is_word, T.F_is_word.kp⟩ hg (hr.mono (by decide)) tk T.B_is_word (v_cons (e_ix (e_nm 0) (e_int)) (v_nil))) (e_one (e_call (ps := ["value"]) ⟨ok_is_map T, T.g_is_map, T.F_is_map.kp⟩ hg (hr.mono (by decide)) tk T.B_is_map (v_cons (e_ix (e_nm 0) (e_int)) (v_nil))))))) rfl (fun _ => rfl))
end
end Q24

namespace Q24
open PySem PySem.Spec L2 PL
section
variable {P : Program} {w : World} {K : PySem.W.Frag} {mg : Str → Option Value} {base : Heap} (T : Facts K mg)
include T
set_option maxHeartbeats 0 in
theorem ok_are_nested : FnG P w K mg base 1 T.f_are_nested T.d_are_nested ["maps"] (spM ((penG.wt T.tb mg).wc false) K mg 1 m_are_nested) := by
  have nd := sc_are_nested.nd
  refine fn_okG (m := m_are_nested) (Sh := fun args => ∃ maps : D, args = [.d maps]) T.F_are_nested sc_are_nested (by decide) (fun args n P PX h => ?_) ?_
  · unfold m_are_nested at h; split at h
    all_goals first | exact ⟨_, rfl⟩ | exact False.elim h
  · rintro args ⟨maps, rfl⟩ cdv A outer s H E Wx hg hr tk po
    show SG _ _ _ _ _ EnT (d_are_nested maps)
    unfold d_are_nested
    exact (sg_forI (t := (.tp [.nm 1, .nm 2])) (f := zT) (emb := (fun j : Unit => [.d maps, .un, .un, .un, .un, .un])) (e := (fun a j => [.d maps, .d a.1, .d a.2, .un, .un, .un])) po rfl (w_zipZ (T.z_zip) (e_nm 0) (e_sl (e_nm 0) (p_some (e_int)) (p_none))) (g_tp rfl (gs_cons (g_nm 1 nd) (gs_cons (g_nm 2 nd) (gs_nil)))) rfl (fun _ => rfl) zT_inj (Le.same (Le.same (Le.same (Le.same (Le.same (Le.same (Le.nil))))))) (fun x j => (setT_z 1 2) x _) (fun j a b h => Prod.ext (by have q := congrArg (·[1]?) h; exact SV.d.inj (Option.some.inj q)) (by have q := congrArg (·[2]?) h; exact SV.d.inj (Option.some.inj q)))
    (fun p j => sg_asg (f := .dic) (ρ' := fun known => [.d maps, .d p.1, .d p.2, .d (.dic known), .un, .un]) 3 6 ((k_dict rfl (T.z_dict) (e_nm 2)).e) (g_nm 3 nd) rfl dic_inj rfl (by decide) (fun _ => rfl) (fun known => sg_if (t_not (t_truth (e_all rfl (T.z_all) ((o_lcQ (own := [("key", 4), ("entry", 5)]) (t := (.tp [.nm 4, .nm 5])) (f := (fun y : D => y)) (mu := unp2) (ee := (fun a ρ => (ρ.set 4 (.d a.1)).set 5 (.d a.2))) seqT_map (setT_tp2 4 5) rfl nd (w_seqZ (e_nm 1)) (blkOk_by (own := [("key", 4), ("entry", 5)]) (N := sc_are_nested_N) (sc := defScope s_are_nested) (by decide +kernel)) (fun _ _ _ _ _ => g_tp rfl (gs_cons (g_nm 4 nd) (gs_cons (g_nm 5 nd) (gs_nil)))) (fun _ _ _ _ _ => ts_nil) (fun _ _ _ _ _ => e_inD (u1 hr) (e_nm 4) (e_nm 3))).e)))) rfl
    (sg_retP (d := (.bl false)) (e_bl) rfl ⟨ret (.bl false), rfl, rfl⟩)
    (sg_push (sg_nil ⟨(), rfl, (Le.same (Le.un (Le.un (Le.un (Le.same (Le.same (Le.nil)))))))⟩))))
    (fun j1 => sg_retP (d := (.bl true)) (e_bl) rfl rfl))
end
end Q24

namespace Q24
open PySem PySem.Spec L2 PL
section
variable {P : Program} {w : World} {K : PySem.W.Frag} {mg : Str → Option Value} {base : Heap} (T : Facts K mg)
include T
set_option maxHeartbeats 0 in
theorem ok_are_parts : FnG P w K mg base 6 T.f_are_parts T.d_are_parts ["pattern", "source", "frames", "writes"] (spM ((penG.wt T.tb mg).wc false) K mg 4 m_are_parts) := by
  have nd := sc_are_parts.nd
  refine fn_okG (m := m_are_parts) (Sh := fun args => ∃ pattern : D, ∃ source : D, ∃ frames : D, ∃ writes : D, args = [.d pattern, .d source, .d frames, .d writes]) T.F_are_parts sc_are_parts (by decide) (fun args n P PX h => ?_) ?_
  · unfold m_are_parts at h; split at h
    all_goals first | exact ⟨_, _, _, _, rfl⟩ | exact False.elim h
  · rintro args ⟨pattern, source, frames, writes, rfl⟩ cdv A outer s H E Wx hg hr tk po
    show SG _ _ _ _ _ EnT (d_are_parts pattern source frames writes)
    unfold d_are_parts
    exact (sg_if ((tw_or (t_not (t_truth (e_isi .tup (T.z_isinstance) (T.z_tuple) (by decide +kernel) (e_nm 0)))) (tw_or1 (t_not (t_truth (e_all rfl (T.z_all) ((o_lcQ (own := [("name", 5)]) (t := (.nm 5)) (f := (fun y : D => y)) (mu := ret) (ee := (fun a ρ => ρ.set 5 (.d a))) seqT_map (fun x ρ => setT_1 5 (fun y : D => y) x ρ) rfl nd (w_seqZ (e_nm 0)) (blkOk_by (own := [("name", 5)]) (N := sc_are_parts_N) (sc := defScope s_are_parts) (by decide +kernel)) (fun _ _ _ _ _ => g_nm 5 nd) (fun _ _ _ _ _ => ts_nil) (fun _ _ _ _ _ => e_call (ps := ["value"]) ⟨ok_is_word T, T.g_is_word, T.F_is_word.kp⟩ hg (hr.mono (by decide)) L2.takes0 T.B_is_word (v_cons (e_nm 5) (v_nil)))).e)))))).t) rfl
    (sg_retP (d := (.bl false)) (e_bl) rfl rfl)
    (sg_push (sg_if ((tw_or (t_not (t_truth (e_call (ps := ["value", "least", "most"]) ⟨ok_is_between T, T.g_is_between, T.F_is_between.kp⟩ hg (hr.mono (by decide)) tk T.B_is_between (v_cons (e_nm 1) (v_cons (e_int) (v_cons (e_lenI (T.z_len) (e_nm 0)) (v_nil))))))) (tw_or (t_not (t_truth (e_isi .tup (T.z_isinstance) (T.z_tuple) (by decide +kernel) (e_nm 2)))) (tw_or1 (t_not (t_truth (e_call (ps := ["value"]) ⟨ok_is_map T, T.g_is_map, T.F_is_map.kp⟩ hg (hr.mono (by decide)) tk T.B_is_map (v_cons (e_nm 3) (v_nil)))))))).t) rfl
    (sg_retP (d := (.bl false)) (e_bl) rfl rfl)
    (sg_push (sg_retT (e_and (e_all rfl (T.z_all) ((o_lcQ (own := [("frame", 4)]) (t := (.nm 4)) (f := (fun y : D => y)) (mu := ret) (ee := (fun a ρ => ρ.set 4 (.d a))) seqT_map (fun x ρ => setT_1 4 (fun y : D => y) x ρ) rfl nd (w_seqZ (e_nm 2)) (blkOk_by (own := [("frame", 4)]) (N := sc_are_parts_N) (sc := defScope s_are_parts) (by decide +kernel)) (fun _ _ _ _ _ => g_nm 4 nd) (fun _ _ _ _ _ => ts_nil) (fun _ _ _ _ _ => e_call (ps := ["value"]) ⟨ok_is_frame T, T.g_is_frame, T.F_is_frame.kp⟩ hg (hr.mono (by decide)) L2.takes0 T.B_is_frame (v_cons (e_nm 4) (v_nil)))).e)) (e_one (e_call (ps := ["maps"]) ⟨ok_are_nested T, T.g_are_nested, T.F_are_nested.kp⟩ hg (hr.mono (by decide)) tk T.B_are_nested (v_cons (e_add ((o_lcQ (own := [("frame", 4)]) (t := (.nm 4)) (f := (fun y : D => y)) (mu := ret) (ee := (fun a ρ => ρ.set 4 (.d a))) seqT_map (fun x ρ => setT_1 4 (fun y : D => y) x ρ) rfl nd (w_seqZ (e_nm 2)) (blkOk_by (own := [("frame", 4)]) (N := sc_are_parts_N) (sc := defScope s_are_parts) (by decide +kernel)) (fun _ _ _ _ _ => g_nm 4 nd) (fun _ _ _ _ _ => ts_nil) (fun _ _ _ _ _ => e_ix (e_nm 4) (e_int))).e) ((o_lstL (al_cons (e_nm 3) (al_nil))).e)) (v_nil))))) rfl (fun _ => rfl))))))
end
end Q24

namespace Q24
open PySem PySem.Spec L2 PL
section
variable {P : Program} {w : World} {K : PySem.W.Frag} {mg : Str → Option Value} {base : Heap} (T : Facts K mg)
include T
set_option maxHeartbeats 0 in
theorem ok_Plan_init : FnG P w K mg base 7 T.f_Plan_init T.d_Plan_init ["self", "pattern", "source", "frames", "writes"] (spI ((penG.wt T.tb mg).wc false) K mg 4 (Str.ofString "own_parts") m_Plan_init) := by
  have nd := sc_Plan_init.nd
  refine fn_init (m := m_Plan_init) (Sh := fun args => ∃ pattern : D, ∃ source : D, ∃ frames : D, ∃ writes : D, args = [.d pattern, .d source, .d frames, .d writes]) T.F_Plan_init sc_Plan_init (by decide) rfl rfl rfl rfl (fun args n P PX h => ?_) ?_
  · unfold m_Plan_init at h; split at h
    all_goals first | exact ⟨_, _, _, _, rfl⟩ | exact False.elim h
  · rintro args ⟨pattern, source, frames, writes, rfl⟩ a cdv A outer s H E Wx hg hr tk
    refine ⟨_, _, _, _, s_if (t_not (t_truth (e_call (ps := ["pattern", "source", "frames", "writes"]) ⟨ok_are_parts T, T.g_are_parts, T.F_are_parts.kp⟩ hg (hr.mono (by decide)) tk T.B_are_parts (v_cons (e_nm 1) (v_cons (e_nm 2) (v_cons (e_nm 3) (v_cons (e_nm 4) (v_nil)))))))) (ss_one (s_raise0 T.er_InvalidPlan rfl tk rfl)) ss_nil, e_tupL (al_cons (e_nm 1) (al_cons (e_nm 2) (al_cons (e_nm 3) (al_cons (e_nm 4) (al_nil))))), rfl, if_raise (mt := bnd (cl (d_are_parts pattern source frames writes)) fun y => bnd (tru y) fun k => ret (!k)), rfl, ?_⟩
    show d_Plan_init pattern source frames writes = _
    unfold d_Plan_init
    rfl
end
end Q24

namespace Q24
open PySem PySem.Spec L2 PL
section
variable {P : Program} {w : World} {K : PySem.W.Frag} {mg : Str → Option Value} {base : Heap} (T : Facts K mg)
include T
set_option maxHeartbeats 0 in
theorem ok_Plan_of : FnG P w K mg base 9 T.f_Plan_of T.d_Plan_of ["cls", "commands"] (spM ((penG.wt T.tb mg).wc false) K mg 2 (mc_Plan_of T.C_Plan)) := by
  have nd := sc_Plan_of.nd
  refine fn_okG (m := mc_Plan_of T.C_Plan) (Sh := fun args => ∃ commands : D, args = [.o T.C_Plan, .d commands]) T.F_Plan_of sc_Plan_of (by decide) (fun args n P PX h => ?_) ?_
  · unfold mc_Plan_of at h; split at h
    · obtain ⟨rfl, h⟩ := h
      unfold m_Plan_of at h; split at h
      all_goals first | exact ⟨_, rfl⟩ | exact False.elim h
    · exact False.elim h
  · rintro args ⟨commands, rfl⟩ cdv A outer s H E Wx hg hr tk po
    refine sg_eq ?_ (mc_Plan_of_eq T.C_Plan _).symm
    show SG _ _ _ _ _ EnT (d_Plan_of commands)
    unfold d_Plan_of
    exact (sg_expr (e_call (ps := ["value"]) ⟨ok_need_script T, T.g_need_script, T.F_need_script.kp⟩ hg (hr.mono (by decide)) tk T.B_need_script (v_cons (e_nm 1) (v_nil))) rfl (sg_asgP (d := (.tup [(.tup []), (.int 0), (.tup []), (.tup [])])) (ρ' := [.o T.C_Plan, .d commands, .d (.tup [(.tup []), (.int 0), (.tup []), (.tup [])]), .un]) 2 (e_gd T.c_EMPTY) (g_nm 2 nd) rfl rfl (sg_forI (t := (.nm 3)) (f := (fun y : D => y)) (emb := (fun j : D => [.o T.C_Plan, .d commands, .d j, .un])) (e := (fun a j => [.o T.C_Plan, .d commands, .d j, .d a])) po rfl (w_seqZ (e_nm 1)) (g_nm 3 nd) rfl seqT_map id_inj (Le.same (Le.same (Le.same (Le.same (Le.nil))))) (fun x j => rfl) (fun j a b h => id_inj _ _ (by have q := congrArg (·[3]?) h; exact SV.d.inj (Option.some.inj q)))
    (fun command j => sg_asg (f := (fun x => x)) (ρ' := fun parts => [.o T.C_Plan, .d commands, .d parts, .d command]) 2 4 (e_call (ps := ["parts", "command"]) ⟨ok_extended T, T.g_extended, T.F_extended.kp⟩ hg (hr.mono (by decide)) tk T.B_extended (v_cons (e_nm 2) (v_cons (e_nm 3) (v_nil)))) (g_nm 2 nd) rfl id_inj rfl (by decide) (fun _ => rfl) (fun parts => sg_nil ⟨parts, rfl, (Le.same (Le.same (Le.same (Le.un (Le.nil)))))⟩))
    (fun j1 => sg_retT (e_makeL 0 ⟨ok_Plan_init T, T.mk_Plan, T.ic_Plan, T.B_Plan_init⟩ hg (hr.mono (by decide)) tk (v_cons (e_ix (e_nm 2) (e_int)) (v_cons (e_ix (e_nm 2) (e_int)) (v_cons (e_ix (e_nm 2) (e_int)) (v_cons (e_ix (e_nm 2) (e_int)) (v_nil)))))) (objIs_self.trans rfl) (fun _ => rfl)))))
end
end Q24

namespace Q24
open PySem PySem.Spec L2 PL
section
variable {P : Program} {w : World} {K : PySem.W.Frag} {mg : Str → Option Value} {base : Heap} (T : Facts K mg)
include T
set_option maxHeartbeats 0 in
theorem ok_Plan_pattern : FnG P w K mg base 1 T.f_Plan_pattern T.d_Plan_pattern ["self"] (spM ((penG.wt T.tb mg).wc false) K mg 1 m_Plan_pattern) := by
  have nd := sc_Plan_pattern.nd
  refine fn_okG (m := m_Plan_pattern) (Sh := fun args => ∃ self : D, args = [.d self]) T.F_Plan_pattern sc_Plan_pattern (by decide) (fun args n P PX h => ?_) ?_
  · unfold m_Plan_pattern at h; split at h
    all_goals first | exact ⟨_, rfl⟩ | exact False.elim h
  · rintro args ⟨self, rfl⟩ cdv A outer s H E Wx hg hr tk po
    show SG _ _ _ _ _ EnT (d_Plan_pattern self)
    unfold d_Plan_pattern
    exact (sg_retT (e_ix (e_fld (f := "own_parts") (e_nm 0)) (e_int)) rfl (fun _ => rfl))
end
end Q24

namespace Q24
open PySem PySem.Spec L2 PL
section
variable {P : Program} {w : World} {K : PySem.W.Frag} {mg : Str → Option Value} {base : Heap} (T : Facts K mg)
include T
set_option maxHeartbeats 0 in
theorem ok_Plan_source : FnG P w K mg base 1 T.f_Plan_source T.d_Plan_source ["self"] (spM ((penG.wt T.tb mg).wc false) K mg 1 m_Plan_source) := by
  have nd := sc_Plan_source.nd
  refine fn_okG (m := m_Plan_source) (Sh := fun args => ∃ self : D, args = [.d self]) T.F_Plan_source sc_Plan_source (by decide) (fun args n P PX h => ?_) ?_
  · unfold m_Plan_source at h; split at h
    all_goals first | exact ⟨_, rfl⟩ | exact False.elim h
  · rintro args ⟨self, rfl⟩ cdv A outer s H E Wx hg hr tk po
    show SG _ _ _ _ _ EnT (d_Plan_source self)
    unfold d_Plan_source
    exact (sg_retT (e_ix (e_fld (f := "own_parts") (e_nm 0)) (e_int)) rfl (fun _ => rfl))
end
end Q24

namespace Q24
open PySem PySem.Spec L2 PL
section
variable {P : Program} {w : World} {K : PySem.W.Frag} {mg : Str → Option Value} {base : Heap} (T : Facts K mg)
include T
set_option maxHeartbeats 0 in
theorem ok_Plan_frames : FnG P w K mg base 1 T.f_Plan_frames T.d_Plan_frames ["self"] (spM ((penG.wt T.tb mg).wc false) K mg 1 m_Plan_frames) := by
  have nd := sc_Plan_frames.nd
  refine fn_okG (m := m_Plan_frames) (Sh := fun args => ∃ self : D, args = [.d self]) T.F_Plan_frames sc_Plan_frames (by decide) (fun args n P PX h => ?_) ?_
  · unfold m_Plan_frames at h; split at h
    all_goals first | exact ⟨_, rfl⟩ | exact False.elim h
  · rintro args ⟨self, rfl⟩ cdv A outer s H E Wx hg hr tk po
    show SG _ _ _ _ _ EnT (d_Plan_frames self)
    unfold d_Plan_frames
    exact (sg_retT (e_ix (e_fld (f := "own_parts") (e_nm 0)) (e_int)) rfl (fun _ => rfl))
end
end Q24

namespace Q24
open PySem PySem.Spec L2 PL
section
variable {P : Program} {w : World} {K : PySem.W.Frag} {mg : Str → Option Value} {base : Heap} (T : Facts K mg)
include T
set_option maxHeartbeats 0 in
theorem ok_Plan_writes : FnG P w K mg base 1 T.f_Plan_writes T.d_Plan_writes ["self"] (spM ((penG.wt T.tb mg).wc false) K mg 1 m_Plan_writes) := by
  have nd := sc_Plan_writes.nd
  refine fn_okG (m := m_Plan_writes) (Sh := fun args => ∃ self : D, args = [.d self]) T.F_Plan_writes sc_Plan_writes (by decide) (fun args n P PX h => ?_) ?_
  · unfold m_Plan_writes at h; split at h
    all_goals first | exact ⟨_, rfl⟩ | exact False.elim h
  · rintro args ⟨self, rfl⟩ cdv A outer s H E Wx hg hr tk po
    show SG _ _ _ _ _ EnT (d_Plan_writes self)
    unfold d_Plan_writes
    exact (sg_retT (e_ix (e_fld (f := "own_parts") (e_nm 0)) (e_int)) rfl (fun _ => rfl))
end
end Q24

namespace Q24
open PySem PySem.Spec L2 PL
section
variable {P : Program} {w : World} {K : PySem.W.Frag} {mg : Str → Option Value} {base : Heap} (T : Facts K mg)
include T
set_option maxHeartbeats 0 in
theorem ok_Plan_mul : FnG P w K mg base 9 T.f_Plan_mul T.d_Plan_mul ["self", "other"] (spM ((penG.wt T.tb mg).wc false) K mg 2 m_Plan_mul) := by
  have nd := sc_Plan_mul.nd
  refine fn_okG (m := m_Plan_mul) (Sh := fun args => ∃ self : D, ∃ other : D, args = [.d self, .d other]) T.F_Plan_mul sc_Plan_mul (by decide) (fun args n P PX h => ?_) ?_
  · unfold m_Plan_mul at h; split at h
    all_goals first | exact ⟨_, _, rfl⟩ | exact False.elim h
  · rintro args ⟨self, other, rfl⟩ cdv A outer s H E Wx hg hr tk po
    show SG _ _ _ _ _ EnT (d_Plan_mul self other)
    unfold d_Plan_mul
    exact (sg_if (t_not (t_truth (e_isOwn T.ic_Plan T.me_Plan (T.z_isinstance) T.g_Plan (e_nm 1)))) rfl
    (sg_stuck)
    (sg_push (sg_asg (f := (fun x => x)) (ρ' := fun parts => [.d self, .d other, .d parts]) 2 3 (e_call (ps := ["first", "second"]) ⟨ok_composed T, T.g_composed, T.F_composed.kp⟩ hg (hr.mono (by decide)) tk T.B_composed (v_cons (e_fld (f := "own_parts") (e_nm 0)) (v_cons (e_fld (f := "own_parts") (e_nm 1)) (v_nil)))) (g_nm 2 nd) rfl id_inj rfl (by decide) (fun _ => rfl) (fun parts => sg_retT (e_make ⟨ok_Plan_init T, T.mk_Plan, T.ic_Plan, T.B_Plan_init⟩ T.g_Plan hg (hr.mono (by decide)) tk (v_cons (e_ix (e_nm 2) (e_int)) (v_cons (e_ix (e_nm 2) (e_int)) (v_cons (e_ix (e_nm 2) (e_int)) (v_cons (e_ix (e_nm 2) (e_int)) (v_nil)))))) rfl (fun _ => rfl)))))
end
end Q24

namespace Q24
open PySem PySem.Spec L2 PL
section
variable {P : Program} {w : World} {K : PySem.W.Frag} {mg : Str → Option Value} {base : Heap} (T : Facts K mg)
include T
set_option maxHeartbeats 0 in
theorem ok_Plan_eq : FnG P w K mg base 1 T.f_Plan_eq T.d_Plan_eq ["self", "other"] (spM ((penG.wt T.tb mg).wc false) K mg 2 m_Plan_eq) := by
  have nd := sc_Plan_eq.nd
  refine fn_okG (m := m_Plan_eq) (Sh := fun args => ∃ self : D, ∃ other : D, args = [.d self, .d other]) T.F_Plan_eq sc_Plan_eq (by decide) (fun args n P PX h => ?_) ?_
  · unfold m_Plan_eq at h; split at h
    all_goals first | exact ⟨_, _, rfl⟩ | exact False.elim h
  · rintro args ⟨self, other, rfl⟩ cdv A outer s H E Wx hg hr tk po
    show SG _ _ _ _ _ EnT (d_Plan_eq self other)
    unfold d_Plan_eq
    exact (sg_retT (e_and (e_isOwn T.ic_Plan T.me_Plan (T.z_isinstance) T.g_Plan (e_nm 1)) (e_one (e_cmp (cm_eq (u64 hr)) (e_fld (f := "own_parts") (e_nm 0)) (e_fld (f := "own_parts") (e_nm 1))))) rfl (fun _ => rfl))
end
end Q24

namespace Q24
open PySem PySem.Spec L2 PL
section
variable {P : Program} {w : World} {K : PySem.W.Frag} {mg : Str → Option Value} {base : Heap} (T : Facts K mg)
include T
set_option maxHeartbeats 0 in
theorem ok_own_matches : FnG P w K mg base 3 T.f_own_matches T.d_own_matches ["plan"] (spM ((penG.wt T.tb mg).wc false) K mg 1 m_own_matches) := by
  have nd := sc_own_matches.nd
  refine fn_okG (m := m_own_matches) (Sh := fun args => ∃ plan : D, args = [.d plan]) T.F_own_matches sc_own_matches (by decide) (fun args n P PX h => ?_) ?_
  · unfold m_own_matches at h; split at h
    all_goals first | exact ⟨_, rfl⟩ | exact False.elim h
  · rintro args ⟨plan, rfl⟩ cdv A outer s H E Wx hg hr tk po
    show SG _ _ _ _ _ EnT (d_own_matches plan)
    unfold d_own_matches
    exact (sg_retT (e_lenI (T.z_len) (e_call (ps := ["pattern", "frames"]) ⟨ok_own_places T, T.g_own_places, T.F_own_places.kp⟩ hg (hr.mono (by decide)) tk T.B_own_places (v_cons (e_prop T.ic_Plan T.pp_Plan_pattern ⟨ok_Plan_pattern T, T.B_Plan_pattern⟩ rfl hg (hr.mono (by decide)) (e_nm 0)) (v_cons (e_prop T.ic_Plan T.pp_Plan_frames ⟨ok_Plan_frames T, T.B_Plan_frames⟩ rfl hg (hr.mono (by decide)) (e_nm 0)) (v_nil))))) rfl (fun _ => rfl))
end
end Q24

namespace Q24
open PySem PySem.Spec L2 PL
section
variable {P : Program} {w : World} {K : PySem.W.Frag} {mg : Str → Option Value} {base : Heap} (T : Facts K mg)
include T
set_option maxHeartbeats 0 in
theorem ok_need_times : FnG P w K mg base 3 T.f_need_times T.d_need_times ["times"] (spM ((penG.wt T.tb mg).wc false) K mg 1 m_need_times) := by
  have nd := sc_need_times.nd
  refine fn_okG (m := m_need_times) (Sh := fun args => ∃ times : D, args = [.d times]) T.F_need_times sc_need_times (by decide) (fun args n P PX h => ?_) ?_
  · unfold m_need_times at h; split at h
    all_goals first | exact ⟨_, rfl⟩ | exact False.elim h
  · rintro args ⟨times, rfl⟩ cdv A outer s H E Wx hg hr tk po
    show SG _ _ _ _ _ EnT (d_need_times times)
    unfold d_need_times
    exact (sg_if (t_not (t_truth (e_call (ps := ["value", "least", "most"]) ⟨ok_is_between T, T.g_is_between, T.F_is_between.kp⟩ hg (hr.mono (by decide)) tk T.B_is_between (v_cons (e_nm 0) (v_cons (e_int) (v_cons (e_gi T.c_MOST_TIMES.choose_spec) (v_nil))))))) rfl
    (sg_raise1 T.er_InvalidTimes rfl (hr.mono (by decide)) tk (e_nm 0) rfl rfl)
    (sg_push (sg_nil rfl)))
end
end Q24

namespace Q24
open PySem PySem.Spec L2 PL
section
variable {P : Program} {w : World} {K : PySem.W.Frag} {mg : Str → Option Value} {base : Heap} (T : Facts K mg)
include T
set_option maxHeartbeats 0 in
theorem ok_frames_kept : FnG P w K mg base 3 T.f_frames_kept T.d_frames_kept ["plan", "places"] (spM ((penG.wt T.tb mg).wc false) K mg 2 m_frames_kept) := by
  have nd := sc_frames_kept.nd
  refine fn_okG (m := m_frames_kept) (Sh := fun args => ∃ plan : D, ∃ places : D, args = [.d plan, .d places]) T.F_frames_kept sc_frames_kept (by decide) (fun args n P PX h => ?_) ?_
  · unfold m_frames_kept at h; split at h
    all_goals first | exact ⟨_, _, rfl⟩ | exact False.elim h
  · rintro args ⟨plan, places, rfl⟩ cdv A outer s H E Wx hg hr tk po
    show SG _ _ _ _ _ EnT (d_frames_kept plan places)
    unfold d_frames_kept
    exact (sg_if (t_cmp (cm_lt) (e_lenI (T.z_len) (e_nm 1)) (e_lenI (T.z_len) (e_prop T.ic_Plan T.pp_Plan_pattern ⟨ok_Plan_pattern T, T.B_Plan_pattern⟩ rfl hg (hr.mono (by decide)) (e_nm 0)))) rfl
    (sg_retP (d := (.tup [])) (e_tupL (al_nil)) rfl rfl)
    (sg_push (sg_retT (e_if (t_cmp (cm_eqI (u64 hr)) (e_lenI (T.z_len) (e_nm 1)) (e_int)) (e_prop T.ic_Plan T.pp_Plan_frames ⟨ok_Plan_frames T, T.B_Plan_frames⟩ rfl hg (hr.mono (by decide)) (e_nm 0)) (e_sl (e_prop T.ic_Plan T.pp_Plan_frames ⟨ok_Plan_frames T, T.B_Plan_frames⟩ rfl hg (hr.mono (by decide)) (e_nm 0)) (p_none) (p_some (e_asI (e_ix (e_nm 1) (e_neg (e_int))))))) rfl (fun _ => rfl))))
end
end Q24

namespace Q24
open PySem PySem.Spec L2 PL
section
variable {P : Program} {w : World} {K : PySem.W.Frag} {mg : Str → Option Value} {base : Heap} (T : Facts K mg)
include T
set_option maxHeartbeats 0 in
theorem ok_inner_of : FnG P w K mg base 3 T.f_inner_of T.d_inner_of ["plan", "places"] (spM ((penG.wt T.tb mg).wc false) K mg 2 m_inner_of) := by
  have nd := sc_inner_of.nd
  refine fn_okG (m := m_inner_of) (Sh := fun args => ∃ plan : D, ∃ places : D, args = [.d plan, .d places]) T.F_inner_of sc_inner_of (by decide) (fun args n P PX h => ?_) ?_
  · unfold m_inner_of at h; split at h
    all_goals first | exact ⟨_, _, rfl⟩ | exact False.elim h
  · rintro args ⟨plan, places, rfl⟩ cdv A outer s H E Wx hg hr tk po
    show SG _ _ _ _ _ EnT (d_inner_of plan places)
    unfold d_inner_of
    exact (sg_retT (e_call (ps := ["parts", "places", "source"]) ⟨ok_inner_map T, T.g_inner_map, T.F_inner_map.kp⟩ hg (hr.mono (by decide)) tk T.B_inner_map (v_cons (e_tupL (al_cons (e_prop T.ic_Plan T.pp_Plan_pattern ⟨ok_Plan_pattern T, T.B_Plan_pattern⟩ rfl hg (hr.mono (by decide)) (e_nm 0)) (al_cons (e_prop T.ic_Plan T.pp_Plan_source ⟨ok_Plan_source T, T.B_Plan_source⟩ rfl hg (hr.mono (by decide)) (e_nm 0)) (al_cons (e_prop T.ic_Plan T.pp_Plan_frames ⟨ok_Plan_frames T, T.B_Plan_frames⟩ rfl hg (hr.mono (by decide)) (e_nm 0)) (al_cons (e_prop T.ic_Plan T.pp_Plan_writes ⟨ok_Plan_writes T, T.B_Plan_writes⟩ rfl hg (hr.mono (by decide)) (e_nm 0)) (al_nil)))))) (v_cons (e_nm 1) (v_cons (e_prop T.ic_Plan T.pp_Plan_source ⟨ok_Plan_source T, T.B_Plan_source⟩ rfl hg (hr.mono (by decide)) (e_nm 0)) (v_nil))))) rfl (fun _ => rfl))
end
end Q24

namespace Q24
open PySem PySem.Spec L2 PL
section
variable {P : Program} {w : World} {K : PySem.W.Frag} {mg : Str → Option Value} {base : Heap} (T : Facts K mg)
include T
set_option maxHeartbeats 0 in
theorem ok_power : FnG P w K mg base 9 T.f_power T.d_power ["plan", "times"] (spM ((penG.wt T.tb mg).wc false) K mg 2 m_power) := by
  have nd := sc_power.nd
  refine fn_okG (m := m_power) (Sh := fun args => ∃ plan : D, ∃ times : D, args = [.d plan, .d times]) T.F_power sc_power (by decide) (fun args n P PX h => ?_) ?_
  · unfold m_power at h; split at h
    all_goals first | exact ⟨_, _, rfl⟩ | exact False.elim h
  · rintro args ⟨plan, times, rfl⟩ cdv A outer s H E Wx hg hr tk po
    show SG _ _ _ _ _ EnT (d_power plan times)
    unfold d_power
    exact (sg_expr (e_call (ps := ["times"]) ⟨ok_need_times T, T.g_need_times, T.F_need_times.kp⟩ hg (hr.mono (by decide)) tk T.B_need_times (v_cons (e_nm 1) (v_nil))) rfl (sg_if (t_cmp (cm_eq (u64 hr)) (e_nm 1) (e_int)) rfl
    (sg_retT (e_make0K ⟨ok_Plan_init T, T.mk_Plan, T.ic_Plan, T.B_Plan_init⟩ T.D0_Plan_init rfl T.g_Plan hg (hr.mono (by decide)) tk) rfl (fun _ => rfl))
    (sg_push (sg_asg (f := (fun x => x)) (ρ' := fun places => [.d plan, .d times, .d places, .un, .un, .un, .un, .un, .un, .un, .un, .un]) 2 12 (e_call (ps := ["pattern", "frames"]) ⟨ok_own_places T, T.g_own_places, T.F_own_places.kp⟩ hg (hr.mono (by decide)) tk T.B_own_places (v_cons (e_prop T.ic_Plan T.pp_Plan_pattern ⟨ok_Plan_pattern T, T.B_Plan_pattern⟩ rfl hg (hr.mono (by decide)) (e_nm 0)) (v_cons (e_prop T.ic_Plan T.pp_Plan_frames ⟨ok_Plan_frames T, T.B_Plan_frames⟩ rfl hg (hr.mono (by decide)) (e_nm 0)) (v_nil)))) (g_nm 2 nd) rfl id_inj rfl (by decide) (fun _ => rfl) (fun places => sg_asg (f := (fun x => x)) (ρ' := fun kept => [.d plan, .d times, .d places, .d kept, .un, .un, .un, .un, .un, .un, .un, .un]) 3 12 (e_call (ps := ["plan", "places"]) ⟨ok_frames_kept T, T.g_frames_kept, T.F_frames_kept.kp⟩ hg (hr.mono (by decide)) tk T.B_frames_kept (v_cons (e_nm 0) (v_cons (e_nm 2) (v_nil)))) (g_nm 3 nd) rfl id_inj rfl (by decide) (fun _ => rfl) (fun kept => sg_asg (f := (fun x => x)) (ρ' := fun more => [.d plan, .d times, .d places, .d kept, .d more, .un, .un, .un, .un, .un, .un, .un]) 4 12 (e_sl (e_prop T.ic_Plan T.pp_Plan_pattern ⟨ok_Plan_pattern T, T.B_Plan_pattern⟩ rfl hg (hr.mono (by decide)) (e_nm 0)) (p_some (e_lenI (T.z_len) (e_nm 2))) (p_none)) (g_nm 4 nd) rfl id_inj rfl (by decide) (fun _ => rfl) (fun more => sg_par2 (f1 := fun a : Int × Int => (.int a.1)) (f2 := fun a : Int × Int => (.int a.2)) (ρ' := fun p => [.d plan, .d times, .d places, .d kept, .d more, .d (.int p.1), .d (.int p.2), .un, .un, .un, .un, .un]) 5 6 12 (al_cons (e_add (e_lenI (T.z_len) (e_prop T.ic_Plan T.pp_Plan_pattern ⟨ok_Plan_pattern T, T.B_Plan_pattern⟩ rfl hg (hr.mono (by decide)) (e_nm 0))) (e_mul (e_lenI (T.z_len) (e_nm 4)) (e_sub (e_asI (e_nm 1)) (e_int)))) (al_cons (e_add (e_lenI (T.z_len) (e_prop T.ic_Plan T.pp_Plan_frames ⟨ok_Plan_frames T, T.B_Plan_frames⟩ rfl hg (hr.mono (by decide)) (e_nm 0))) (e_mul (e_lenI (T.z_len) (e_nm 3)) (e_sub (e_asI (e_nm 1)) (e_int)))) (al_nil))) rfl nd rfl (fun a b h1 h2 => Prod.ext (int_inj _ _ h1) (int_inj _ _ h2)) rfl (by decide) (by decide) (by decide) (fun _ => rfl) (fun p => sg_ifP (t_cmp (cm_gt) (e_max2 rfl (T.z_max) (e_nm 5) (e_nm 6)) (e_gi T.c_MOST_PARTS.choose_spec)) rfl
    (sg_raise1 T.er_TooLong rfl (hr.mono (by decide)) tk (e_gi T.c_MOST_PARTS.choose_spec) rfl rfl)
    (sg_push (sg_if (t_cmp (cm_eq (u64 hr)) (e_nm 1) (e_int)) rfl
    (sg_retP (d := plan) (e_nm 0) rfl rfl)
    (sg_push (sg_asg (f := (fun x => x)) (ρ' := fun inner => [.d plan, .d times, .d places, .d kept, .d more, .d (.int p.1), .d (.int p.2), .d inner, .un, .un, .un, .un]) 7 12 (e_call (ps := ["plan", "places"]) ⟨ok_inner_of T, T.g_inner_of, T.F_inner_of.kp⟩ hg (hr.mono (by decide)) tk T.B_inner_of (v_cons (e_nm 0) (v_cons (e_nm 2) (v_nil)))) (g_nm 7 nd) rfl id_inj rfl (by decide) (fun _ => rfl) (fun inner => sg_par2 (f1 := fun a : D × D => a.1) (f2 := fun a : D × D => a.2) (ρ' := fun p1 => [.d plan, .d times, .d places, .d kept, .d more, .d (.int p.1), .d (.int p.2), .d inner, .d p1.1, .d p1.2, .un, .un]) 8 9 12 (al_cons (e_call (ps := ["inner", "frames"]) ⟨ok_frames_over T, T.g_frames_over, T.F_frames_over.kp⟩ hg (hr.mono (by decide)) tk T.B_frames_over (v_cons (e_nm 7) (v_cons (e_prop T.ic_Plan T.pp_Plan_frames ⟨ok_Plan_frames T, T.B_Plan_frames⟩ rfl hg (hr.mono (by decide)) (e_nm 0)) (v_nil)))) (al_cons (e_call (ps := ["lower", "upper"]) ⟨ok_overlaid T, T.g_overlaid, T.F_overlaid.kp⟩ hg (hr.mono (by decide)) tk T.B_overlaid (v_cons (e_nm 7) (v_cons (e_prop T.ic_Plan T.pp_Plan_writes ⟨ok_Plan_writes T, T.B_Plan_writes⟩ rfl hg (hr.mono (by decide)) (e_nm 0)) (v_nil)))) (al_nil))) rfl nd rfl (fun a b h1 h2 => Prod.ext (id_inj _ _ h1) (id_inj _ _ h2)) rfl (by decide) (by decide) (by decide) (fun _ => rfl) (fun p1 => sg_if (t_cmp (cm_eqI (u64 hr)) (e_lenI (T.z_len) (e_nm 4)) (e_int)) rfl
    (sg_asg (f := (fun x => x)) (ρ' := fun copies => [.d plan, .d times, .d places, .d kept, .d more, .d (.int p.1), .d (.int p.2), .d inner, .d p1.1, .d p1.2, .d copies, .un]) 10 12 (e_if (t_cmp (cm_ne (u64 hr)) (e_nm 3) (e_tupL (al_nil))) (e_repT (e_call (ps := ["inner", "frames"]) ⟨ok_frames_over T, T.g_frames_over, T.F_frames_over.kp⟩ hg (hr.mono (by decide)) tk T.B_frames_over (v_cons (e_nm 7) (v_cons (e_nm 3) (v_nil)))) (e_sub (e_asI (e_nm 1)) (e_int))) (e_tupL (al_nil))) (g_nm 10 nd) rfl id_inj rfl (by decide) (fun _ => rfl) (fun copies => sg_retT (e_make ⟨ok_Plan_init T, T.mk_Plan, T.ic_Plan, T.B_Plan_init⟩ T.g_Plan hg (hr.mono (by decide)) tk (v_cons (e_prop T.ic_Plan T.pp_Plan_pattern ⟨ok_Plan_pattern T, T.B_Plan_pattern⟩ rfl hg (hr.mono (by decide)) (e_nm 0)) (v_cons (e_prop T.ic_Plan T.pp_Plan_source ⟨ok_Plan_source T, T.B_Plan_source⟩ rfl hg (hr.mono (by decide)) (e_nm 0)) (v_cons (e_add (e_add (e_nm 3) (e_nm 10)) (e_nm 8)) (v_cons (e_nm 9) (v_nil)))))) rfl (fun _ => rfl)))
    (sg_push (sg_asg (f := (fun x => x)) (ρ' := fun source2 => [.d plan, .d times, .d places, .d kept, .d more, .d (.int p.1), .d (.int p.2), .d inner, .d p1.1, .d p1.2, .un, .d source2]) 11 12 (e_prop T.ic_Plan T.pp_Plan_source ⟨ok_Plan_source T, T.B_Plan_source⟩ rfl hg (hr.mono (by decide)) (e_nm 0)) (g_nm 11 nd) rfl id_inj rfl (by decide) (fun _ => rfl) (fun source2 => sg_ifA (emb := (fun j : D => [.d plan, .d times, .d places, .d kept, .d more, .d (.int p.1), .d (.int p.2), .d inner, .d p1.1, .d p1.2, .un, .d j])) (t_cmp (cm_gt) (e_asI (e_nm 11)) (e_lenI (T.z_len) (e_nm 2))) rfl
    (sg_augI (ρ' := fun source3 => [.d plan, .d times, .d places, .d kept, .d more, .d (.int p.1), .d (.int p.2), .d inner, .d p1.1, .d p1.2, .un, .d (.int source3)]) 11 12 (e_mul (e_lenI (T.z_len) (e_nm 4)) (e_sub (e_asI (e_nm 1)) (e_int))) nd rfl rfl (by decide) (fun _ => rfl) (fun source3 => sg_nil ⟨(.int source3), rfl, (Le.same (Le.same (Le.same (Le.same (Le.same (Le.same (Le.same (Le.same (Le.same (Le.same (Le.same (Le.same (Le.nil)))))))))))))⟩))
    (sg_nil ⟨source2, rfl, (Le.same (Le.same (Le.same (Le.same (Le.same (Le.same (Le.same (Le.same (Le.same (Le.same (Le.same (Le.same (Le.nil)))))))))))))⟩)
    (fun j => sg_retT (e_make ⟨ok_Plan_init T, T.mk_Plan, T.ic_Plan, T.B_Plan_init⟩ T.g_Plan hg (hr.mono (by decide)) tk (v_cons (e_add (e_prop T.ic_Plan T.pp_Plan_pattern ⟨ok_Plan_pattern T, T.B_Plan_pattern⟩ rfl hg (hr.mono (by decide)) (e_nm 0)) (e_repT (e_nm 4) (e_sub (e_asI (e_nm 1)) (e_int)))) (v_cons (e_nm 11) (v_cons (e_nm 8) (v_cons (e_nm 9) (v_nil)))))) rfl (fun _ => rfl)))))))))))))))))))
end
end Q24

namespace Q24
open PySem PySem.Spec L2 PL
section
variable {P : Program} {w : World} {K : PySem.W.Frag} {mg : Str → Option Value} {base : Heap} (T : Facts K mg)
include T
set_option maxHeartbeats 0 in
theorem ok_l_labels : FnG P w K mg base 2 T.f_l_labels T.d_l_labels ["_law_pen_here"] (spM ((penG.wt T.tb mg).wc false) K mg 1 m_l_labels) := by
  have nd := sc_l_labels.nd
  refine fn_okG (m := m_l_labels) (Sh := fun args => args = [.pen]) T.F_l_labels sc_l_labels (by decide) (fun args n P PX h => ?_) ?_
  · unfold m_l_labels at h; split at h
    all_goals first | exact rfl | exact False.elim h
  · rintro args rfl cdv A outer s H E Wx hg hr tk po
    show SG _ _ _ _ _ EnT (d_l_labels )
    unfold d_l_labels
    exact (sg_asgP (d := (.str (Str.ofString "abcdefghijklmnopqrstuvwxyz"))) (ρ' := [.pen, .d (.str (Str.ofString "abcdefghijklmnopqrstuvwxyz")), .un, .un, .un, .un, .un]) 1 (e_str (x := Str.ofString "abcdefghijklmnopqrstuvwxyz")) (g_nm 1 nd) rfl rfl (sg_par2 (f1 := fun a : Int × Int => (.int a.1)) (f2 := fun a : Int × Int => (.int a.2)) (ρ' := fun p => [.pen, .d (.str (Str.ofString "abcdefghijklmnopqrstuvwxyz")), .d (.int p.1), .d (.int p.2), .un, .un, .un]) 2 3 7 (al_cons (e_call (ps := ["_law_pen_here", "_law_bound"]) ⟨ok_l_draw T, T.g_l_draw, T.F_l_draw.kp⟩ hg (hr.mono (by decide)) tk T.B_l_draw (v_pen 0 (v_cons (e_int) (v_nil)))) (al_cons (e_call (ps := ["_law_pen_here", "_law_bound"]) ⟨ok_l_draw T, T.g_l_draw, T.F_l_draw.kp⟩ hg (hr.mono (by decide)) tk T.B_l_draw (v_pen 0 (v_cons (e_int) (v_nil)))) (al_nil))) rfl nd rfl (fun a b h1 h2 => Prod.ext (int_inj _ _ h1) (int_inj _ _ h2)) rfl (by decide) (by decide) (by decide) (fun _ => rfl) (fun p => sg_ownP (d := []) (ρ' := [.pen, .d (.str (Str.ofString "abcdefghijklmnopqrstuvwxyz")), .d (.int p.1), .d (.int p.2), .own [], .un, .un]) 4 (o_lstL (al_nil)) nd rfl rfl (sg_forI (t := (.nm 5)) (f := D.int) (emb := (fun j : List D => [.pen, .d (.str (Str.ofString "abcdefghijklmnopqrstuvwxyz")), .d (.int p.1), .d (.int p.2), .own j, .un, .un])) (e := (fun a j => [.pen, .d (.str (Str.ofString "abcdefghijklmnopqrstuvwxyz")), .d (.int p.1), .d (.int p.2), .own j, .d (.int a), .un])) po rfl (w_rng1Z (T.z_range) (e_add (e_int) (e_call (ps := ["_law_pen_here", "_law_bound"]) ⟨ok_l_draw T, T.g_l_draw, T.F_l_draw.kp⟩ hg (hr.mono (by decide)) tk T.B_l_draw (v_pen 0 (v_cons (e_int) (v_nil)))))) (g_nm 5 nd) rfl (fun _ => rfl) int_inj (Le.same (Le.same (Le.same (Le.same (Le.same (Le.same (Le.same (Le.nil)))))))) (fun x j => rfl) (fun j a b h => int_inj _ _ (by have q := congrArg (·[5]?) h; exact SV.d.inj (Option.some.inj q)))
    (fun turn j => sg_asg (f := (fun x => x)) (ρ' := fun letter => [.pen, .d (.str (Str.ofString "abcdefghijklmnopqrstuvwxyz")), .d (.int p.1), .d (.int p.2), .own j, .d (.int turn), .d letter]) 6 7 (e_ix (e_nm 1) (e_mod (e_add (e_nm 3) (e_mul (e_int) (e_nm 5))) (e_int))) (g_nm 6 nd) rfl id_inj rfl (by decide) (fun _ => rfl) (fun letter => sg_app (f := (fun x => x)) (ρ' := fun app => [.pen, .d (.str (Str.ofString "abcdefghijklmnopqrstuvwxyz")), .d (.int p.1), .d (.int p.2), .own (j ++ [app]), .d (.int turn), .d letter]) (xs := j) 4 7 (e_ix ((o_lstL (al_cons (e_nm 6) (al_cons (e_repS (e_ix (e_nm 1) (e_nm 3)) (e_add (e_mul (e_int) (e_nm 5)) (e_int))) (al_cons (e_add (e_repS (e_ix (e_nm 1) (e_nm 3)) (e_int)) (e_nm 6)) (al_nil))))).e) (e_nm 2)) rfl rfl id_inj rfl (by decide) (fun _ => rfl) (fun app => sg_nil ⟨(j ++ [app]), rfl, (Le.same (Le.same (Le.same (Le.same (Le.same (Le.un (Le.un (Le.nil))))))))⟩)))
    (fun j1 => sg_retP (d := (.lst j1)) (e_nm 4) rfl rfl)))))
end
end Q24

namespace Q24
open PySem PySem.Spec L2 PL
section
variable {P : Program} {w : World} {K : PySem.W.Frag} {mg : Str → Option Value} {base : Heap} (T : Facts K mg)
include T
set_option maxHeartbeats 0 in
theorem ok_l_number : FnG P w K mg base 2 T.f_l_number T.d_l_number ["_law_pen_here"] (spM ((penG.wt T.tb mg).wc false) K mg 1 m_l_number) := by
  have nd := sc_l_number.nd
  refine fn_okG (m := m_l_number) (Sh := fun args => args = [.pen]) T.F_l_number sc_l_number (by decide) (fun args n P PX h => ?_) ?_
  · unfold m_l_number at h; split at h
    all_goals first | exact rfl | exact False.elim h
  · rintro args rfl cdv A outer s H E Wx hg hr tk po
    show SG _ _ _ _ _ EnT (d_l_number )
    unfold d_l_number
    exact (sg_asg (f := .int) (ρ' := fun near => [.pen, .d (.int near)]) 1 2 (e_call (ps := ["_law_pen_here", "_law_bound"]) ⟨ok_l_draw T, T.g_l_draw, T.F_l_draw.kp⟩ hg (hr.mono (by decide)) tk T.B_l_draw (v_pen 0 (v_cons (e_int) (v_nil)))) (g_nm 1 nd) rfl int_inj rfl (by decide) (fun _ => rfl) (fun near => sg_retT (e_ix ((o_lstL (al_cons (e_sub (e_nm 1) (e_int)) (al_cons (e_sub (e_nm 1) (e_int)) (al_cons (e_sub (e_powC (v := 1000000000000000000) (e_int) (e_int)) (e_nm 1)) (al_cons (e_sub (e_nm 1) (e_powC (v := 1000000000000000000) (e_int) (e_int))) (al_nil)))))).e) (e_call (ps := ["_law_pen_here", "_law_bound"]) ⟨ok_l_draw T, T.g_l_draw, T.F_l_draw.kp⟩ hg (hr.mono (by decide)) tk T.B_l_draw (v_pen 0 (v_cons (e_int) (v_nil))))) rfl (fun _ => rfl)))
end
end Q24

namespace Q24
open PySem PySem.Spec L2 PL
section
variable {P : Program} {w : World} {K : PySem.W.Frag} {mg : Str → Option Value} {base : Heap} (T : Facts K mg)
include T
set_option maxHeartbeats 0 in
theorem ok_l_deed : FnG P w K mg base 3 T.f_l_deed T.d_l_deed ["_law_pen_here", "_law_labels_here", "_law_fields"] (spM ((penG.wt T.tb mg).wc false) K mg 3 m_l_deed) := by
  have nd := sc_l_deed.nd
  refine fn_okG (m := m_l_deed) (Sh := fun args => ∃ labels : D, ∃ fields : D, args = [.pen, .d labels, .d fields]) T.F_l_deed sc_l_deed (by decide) (fun args n P PX h => ?_) ?_
  · unfold m_l_deed at h; split at h
    all_goals first | exact ⟨_, _, rfl⟩ | exact False.elim h
  · rintro args ⟨labels, fields, rfl⟩ cdv A outer s H E Wx hg hr tk po
    show SG _ _ _ _ _ EnT (d_l_deed labels fields)
    unfold d_l_deed
    exact (sg_asg (f := .int) (ρ' := fun way => [.pen, .d labels, .d fields, .d (.int way), .un, .un]) 3 6 (e_call (ps := ["_law_pen_here", "_law_bound"]) ⟨ok_l_draw T, T.g_l_draw, T.F_l_draw.kp⟩ hg (hr.mono (by decide)) tk T.B_l_draw (v_pen 0 (v_cons (e_int) (v_nil)))) (g_nm 3 nd) rfl int_inj rfl (by decide) (fun _ => rfl) (fun way => sg_asg (f := (fun x => x)) (ρ' := fun label => [.pen, .d labels, .d fields, .d (.int way), .d label, .un]) 4 6 (e_ix (e_nm 1) (e_call (ps := ["_law_pen_here", "_law_bound"]) ⟨ok_l_draw T, T.g_l_draw, T.F_l_draw.kp⟩ hg (hr.mono (by decide)) tk T.B_l_draw (v_pen 0 (v_cons (e_lenI (T.z_len) (e_nm 1)) (v_nil))))) (g_nm 4 nd) rfl id_inj rfl (by decide) (fun _ => rfl) (fun label => sg_asg (f := (fun x => x)) (ρ' := fun field => [.pen, .d labels, .d fields, .d (.int way), .d label, .d field]) 5 6 (e_ix (e_nm 2) (e_call (ps := ["_law_pen_here", "_law_bound"]) ⟨ok_l_draw T, T.g_l_draw, T.F_l_draw.kp⟩ hg (hr.mono (by decide)) tk T.B_l_draw (v_pen 0 (v_cons (e_lenI (T.z_len) (e_nm 2)) (v_nil))))) (g_nm 5 nd) rfl id_inj rfl (by decide) (fun _ => rfl) (fun field => sg_ifP (t_cmp (cm_lt) (e_nm 3) (e_int)) rfl
    (sg_retT (e_tupL (al_cons (e_str (x := Str.ofString "set")) (al_cons (e_nm 5) (al_cons (e_call (ps := ["_law_pen_here"]) ⟨ok_l_number T, T.g_l_number, T.F_l_number.kp⟩ hg (hr.mono (by decide)) tk T.B_l_number (v_pen 0 (v_nil))) (al_nil))))) rfl (fun _ => rfl))
    (sg_push (sg_ifP (t_cmp (cm_eqI (u64 hr)) (e_nm 3) (e_int)) rfl
    (sg_retP (d := (.tup [(.str (Str.ofString "del")), field])) (e_tupL (al_cons (e_str (x := Str.ofString "del")) (al_cons (e_nm 5) (al_nil)))) rfl rfl)
    (sg_push (sg_retT (e_tupL (al_cons (e_ix ((o_lstL (al_cons (e_str (x := Str.ofString "mark")) (al_cons (e_str (x := Str.ofString "mark")) (al_cons (e_str (x := Str.ofString "mark")) (al_cons (e_str (x := Str.ofString "back")) (al_cons (e_str (x := Str.ofString "back")) (al_cons (e_str (x := Str.ofString "keep")) (al_cons (e_str (x := Str.ofString "keep")) (al_nil))))))))).e) (e_sub (e_nm 3) (e_int))) (al_cons (e_nm 4) (al_nil)))) rfl (fun _ => rfl)))))))))
end
end Q24

namespace Q24
open PySem PySem.Spec L2 PL
section
variable {P : Program} {w : World} {K : PySem.W.Frag} {mg : Str → Option Value} {base : Heap} (T : Facts K mg)
include T
set_option maxHeartbeats 0 in
theorem ok_l_steady : FnG P w K mg base 3 T.f_l_steady T.d_l_steady ["_law_pen_here", "_law_labels_here", "_law_fields"] (spM ((penG.wt T.tb mg).wc false) K mg 3 m_l_steady) := by
  have nd := sc_l_steady.nd
  refine fn_okG (m := m_l_steady) (Sh := fun args => ∃ labels : D, ∃ fields : D, args = [.pen, .d labels, .d fields]) T.F_l_steady sc_l_steady (by decide) (fun args n P PX h => ?_) ?_
  · unfold m_l_steady at h; split at h
    all_goals first | exact ⟨_, _, rfl⟩ | exact False.elim h
  · rintro args ⟨labels, fields, rfl⟩ cdv A outer s H E Wx hg hr tk po
    show SG _ _ _ _ _ EnT (d_l_steady labels fields)
    unfold d_l_steady
    exact (sg_own (ρ' := fun found => [.pen, .d labels, .d fields, .own found, .un, .un, .un]) 3 7 (o_lstL (al_cons (e_tupL (al_cons (e_str (x := Str.ofString "back")) (al_cons (e_ix (e_nm 1) (e_int)) (al_nil)))) (al_nil))) nd rfl rfl (by decide) (fun _ => rfl) (fun found => sg_ifA (emb := (fun j : List D => [.pen, .d labels, .d fields, .own j, .un, .un, .un])) (t_cmp (cm_eqI (u64 hr)) (e_call (ps := ["_law_pen_here", "_law_bound"]) ⟨ok_l_draw T, T.g_l_draw, T.F_l_draw.kp⟩ hg (hr.mono (by decide)) tk T.B_l_draw (v_pen 0 (v_cons (e_int) (v_nil)))) (e_int)) rfl
    (sg_ownP (d := []) (ρ' := [.pen, .d labels, .d fields, .own [], .un, .un, .un]) 3 (o_lstL (al_nil)) nd rfl rfl (sg_nil ⟨[], rfl, (Le.same (Le.same (Le.same (Le.same (Le.same (Le.same (Le.same (Le.nil))))))))⟩))
    (sg_nil ⟨found, rfl, (Le.same (Le.same (Le.same (Le.same (Le.same (Le.same (Le.same (Le.nil))))))))⟩)
    (fun j => sg_forI (t := (.nm 4)) (f := D.int) (emb := (fun j1 : List D => [.pen, .d labels, .d fields, .own j1, .un, .un, .un])) (e := (fun a j1 => [.pen, .d labels, .d fields, .own j1, .d (.int a), .un, .un])) po rfl (w_rng1Z (T.z_range) (e_call (ps := ["_law_pen_here", "_law_bound"]) ⟨ok_l_draw T, T.g_l_draw, T.F_l_draw.kp⟩ hg (hr.mono (by decide)) tk T.B_l_draw (v_pen 0 (v_cons (e_int) (v_nil))))) (g_nm 4 nd) rfl (fun _ => rfl) int_inj (Le.same (Le.same (Le.same (Le.same (Le.same (Le.same (Le.same (Le.nil)))))))) (fun x j => rfl) (fun j a b h => int_inj _ _ (by have q := congrArg (·[4]?) h; exact SV.d.inj (Option.some.inj q)))
    (fun turn j1 => sg_asg (f := (fun x => x)) (ρ' := fun field => [.pen, .d labels, .d fields, .own j1, .d (.int turn), .d field, .un]) 5 7 (e_ix (e_nm 2) (e_call (ps := ["_law_pen_here", "_law_bound"]) ⟨ok_l_draw T, T.g_l_draw, T.F_l_draw.kp⟩ hg (hr.mono (by decide)) tk T.B_l_draw (v_pen 0 (v_cons (e_lenI (T.z_len) (e_nm 2)) (v_nil))))) (g_nm 5 nd) rfl id_inj rfl (by decide) (fun _ => rfl) (fun field => sg_own (ρ' := fun deeds => [.pen, .d labels, .d fields, .own j1, .d (.int turn), .d field, .own deeds]) 6 7 (o_lstL (al_cons (e_tupL (al_cons (e_str (x := Str.ofString "set")) (al_cons (e_nm 5) (al_cons (e_call (ps := ["_law_pen_here"]) ⟨ok_l_number T, T.g_l_number, T.F_l_number.kp⟩ hg (hr.mono (by decide)) tk T.B_l_number (v_pen 0 (v_nil))) (al_nil))))) (al_cons (e_tupL (al_cons (e_str (x := Str.ofString "del")) (al_cons (e_nm 5) (al_nil)))) (al_cons (e_tupL (al_cons (e_str (x := Str.ofString "set")) (al_cons (e_nm 5) (al_cons (e_nm 4) (al_nil))))) (al_nil))))) nd rfl rfl (by decide) (fun _ => rfl) (fun deeds => sg_ifA (emb := (fun j2 : List D => [.pen, .d labels, .d fields, .own j1, .d (.int turn), .d field, .own j2])) (t_cmp (cm_eq (u64 hr)) (e_sl (e_nm 3) (p_none) (p_some (e_int))) ((o_lstL (al_cons (e_tupL (al_cons (e_str (x := Str.ofString "back")) (al_cons (e_ix (e_nm 1) (e_int)) (al_nil)))) (al_nil))).e)) rfl
    (sg_app (f := .tup) (ρ' := fun app => [.pen, .d labels, .d fields, .own j1, .d (.int turn), .d field, .own (deeds ++ [(D.tup app)])]) (xs := deeds) 6 7 (e_tupL (al_cons (e_str (x := Str.ofString "mark")) (al_cons (e_ix (e_nm 1) (e_add (e_int) (e_call (ps := ["_law_pen_here", "_law_bound"]) ⟨ok_l_draw T, T.g_l_draw, T.F_l_draw.kp⟩ hg (hr.mono (by decide)) tk T.B_l_draw (v_pen 0 (v_cons (e_sub (e_lenI (T.z_len) (e_nm 1)) (e_int)) (v_nil)))))) (al_nil)))) rfl rfl tup_inj rfl (by decide) (fun _ => rfl) (fun app => sg_nil ⟨(deeds ++ [(D.tup app)]), rfl, (Le.same (Le.same (Le.same (Le.same (Le.same (Le.same (Le.same (Le.nil))))))))⟩))
    (sg_nil ⟨deeds, rfl, (Le.same (Le.same (Le.same (Le.same (Le.same (Le.same (Le.same (Le.nil))))))))⟩)
    (fun j2 => sg_app (f := (fun x => x)) (ρ' := fun app1 => [.pen, .d labels, .d fields, .own (j1 ++ [app1]), .d (.int turn), .d field, .own j2]) (xs := j1) 3 7 (e_ixOwn 6 (e_call (ps := ["_law_pen_here", "_law_bound"]) ⟨ok_l_draw T, T.g_l_draw, T.F_l_draw.kp⟩ hg (hr.mono (by decide)) tk T.B_l_draw (v_pen 0 (v_cons (e_lenOwn 6 (T.z_len)) (v_nil))))) rfl rfl id_inj rfl (by decide) (fun _ => rfl) (fun app1 => sg_nil ⟨(j1 ++ [app1]), rfl, (Le.same (Le.same (Le.same (Le.same (Le.un (Le.un (Le.un (Le.nil))))))))⟩)))))
    (fun j3 => sg_retP (d := (.lst j3)) (e_nm 3) rfl rfl))))
end
end Q24

namespace Q24
open PySem PySem.Spec L2 PL
section
variable {P : Program} {w : World} {K : PySem.W.Frag} {mg : Str → Option Value} {base : Heap} (T : Facts K mg)
include T
set_option maxHeartbeats 0 in
theorem ok_l_adds : FnG P w K mg base 11 T.f_l_adds T.d_l_adds ["_law_sketch", "_law_one", "_law_two"] (spM ((penG.wt T.tb mg).wc false) K mg 3 m_l_adds) := by
  have nd := sc_l_adds.nd
  refine fn_okG (m := m_l_adds) (Sh := fun args => ∃ sketch : D, ∃ one : D, ∃ two : D, args = [.d sketch, .d one, .d two]) T.F_l_adds sc_l_adds (by decide) (fun args n P PX h => ?_) ?_
  · unfold m_l_adds at h; split at h
    all_goals first | exact ⟨_, _, _, rfl⟩ | exact False.elim h
  · rintro args ⟨sketch, one, two, rfl⟩ cdv A outer s H E Wx hg hr tk po
    show SG _ _ _ _ _ EnT (d_l_adds sketch one two)
    unfold d_l_adds
    exact (sg_asg (f := (fun x => x)) (ρ' := fun both => [.d sketch, .d one, .d two, .d both]) 3 4 (e_call (ps := ["plan", "times"]) ⟨ok_power T, T.g_power, T.F_power.kp⟩ hg (hr.mono (by decide)) tk T.B_power (v_cons (e_nm 0) (v_cons (e_add (e_nm 1) (e_nm 2)) (v_nil)))) (g_nm 3 nd) rfl id_inj rfl (by decide) (fun _ => rfl) (fun both => sg_if ((tw_or (t_cmp (cm_neIns T.ic_Plan T.at_Plan_eq T.fn_Plan_eq T.ne_Plan T.ic_Plan.cm ⟨ok_Plan_eq T, T.B_Plan_eq⟩ rfl hg (hr.mono (by decide)) (u1 hr)) (e_nm 3) (e_mulIns T.ic_Plan T.at_Plan_mul T.fn_Plan_mul T.sf_Plan ⟨ok_Plan_mul T, T.B_Plan_mul⟩ rfl hg (hr.mono (by decide)) (e_call (ps := ["plan", "times"]) ⟨ok_power T, T.g_power, T.F_power.kp⟩ hg (hr.mono (by decide)) tk T.B_power (v_cons (e_nm 0) (v_cons (e_nm 1) (v_nil)))) (e_call (ps := ["plan", "times"]) ⟨ok_power T, T.g_power, T.F_power.kp⟩ hg (hr.mono (by decide)) tk T.B_power (v_cons (e_nm 0) (v_cons (e_nm 2) (v_nil)))))) (tw_or1 (t_cmp (cm_neIns T.ic_Plan T.at_Plan_eq T.fn_Plan_eq T.ne_Plan T.ic_Plan.cm ⟨ok_Plan_eq T, T.B_Plan_eq⟩ rfl hg (hr.mono (by decide)) (u1 hr)) (e_nm 3) (e_mulIns T.ic_Plan T.at_Plan_mul T.fn_Plan_mul T.sf_Plan ⟨ok_Plan_mul T, T.B_Plan_mul⟩ rfl hg (hr.mono (by decide)) (e_call (ps := ["plan", "times"]) ⟨ok_power T, T.g_power, T.F_power.kp⟩ hg (hr.mono (by decide)) tk T.B_power (v_cons (e_nm 0) (v_cons (e_nm 2) (v_nil)))) (e_call (ps := ["plan", "times"]) ⟨ok_power T, T.g_power, T.F_power.kp⟩ hg (hr.mono (by decide)) tk T.B_power (v_cons (e_nm 0) (v_cons (e_nm 1) (v_nil)))))))).t) rfl
    (sg_retP (d := (.bl false)) (e_bl) rfl rfl)
    (sg_push (sg_retT (e_cmp (cm_eqIns T.ic_Plan T.at_Plan_eq T.fn_Plan_eq ⟨ok_Plan_eq T, T.B_Plan_eq⟩ rfl hg (hr.mono (by decide)) (Nat.lt_of_succ_lt (u1 hr))) (e_call (ps := ["plan", "times"]) ⟨ok_power T, T.g_power, T.F_power.kp⟩ hg (hr.mono (by decide)) tk T.B_power (v_cons (e_call (ps := ["plan", "times"]) ⟨ok_power T, T.g_power, T.F_power.kp⟩ hg (hr.mono (by decide)) tk T.B_power (v_cons (e_nm 0) (v_cons (e_nm 1) (v_nil)))) (v_cons (e_nm 2) (v_nil)))) (e_call (ps := ["plan", "times"]) ⟨ok_power T, T.g_power, T.F_power.kp⟩ hg (hr.mono (by decide)) tk T.B_power (v_cons (e_call (ps := ["plan", "times"]) ⟨ok_power T, T.g_power, T.F_power.kp⟩ hg (hr.mono (by decide)) tk T.B_power (v_cons (e_nm 0) (v_cons (e_nm 2) (v_nil)))) (v_cons (e_nm 1) (v_nil))))) rfl (fun _ => rfl)))))
end
end Q24

namespace Q24
open PySem PySem.Spec L2 PL
section
variable {P : Program} {w : World} {K : PySem.W.Frag} {mg : Str → Option Value} {base : Heap} (T : Facts K mg)
include T
set_option maxHeartbeats 0 in
theorem ok_l_small_right : FnG P w K mg base 12 T.f_l_small_right T.d_l_small_right ["_law_pen_here", "_law_deeds"] (spM ((penG.wt T.tb mg).wc false) K mg 2 m_l_small_right) := by
  have nd := sc_l_small_right.nd
  refine fn_okG (m := m_l_small_right) (Sh := fun args => ∃ deeds : D, args = [.pen, .d deeds]) T.F_l_small_right sc_l_small_right (by decide) (fun args n P PX h => ?_) ?_
  · unfold m_l_small_right at h; split at h
    all_goals first | exact ⟨_, rfl⟩ | exact False.elim h
  · rintro args ⟨deeds, rfl⟩ cdv A outer s H E Wx hg hr tk po
    show SG _ _ _ _ _ EnT (d_l_small_right deeds)
    unfold d_l_small_right
    exact (sg_asg (f := (fun x => x)) (ρ' := fun sketch => [.pen, .d deeds, .d sketch, .un, .un, .un]) 2 6 (e_cmeth T.cr_Plan_of T.cm_Plan_of ⟨ok_Plan_of T, T.B_Plan_of⟩ (mc_Plan_of_eq T.C_Plan) (by decide) T.g_Plan hg (hr.mono (by decide)) tk (v_cons (e_nm 1) (v_nil))) (g_nm 2 nd) rfl id_inj rfl (by decide) (fun _ => rfl) (fun sketch => sg_par2 (f1 := fun a : Int × Int => (.int a.1)) (f2 := fun a : Int × Int => (.int a.2)) (ρ' := fun p => [.pen, .d deeds, .d sketch, .d (.int p.1), .d (.int p.2), .un]) 3 4 6 (al_cons (e_call (ps := ["_law_pen_here", "_law_bound"]) ⟨ok_l_draw T, T.g_l_draw, T.F_l_draw.kp⟩ hg (hr.mono (by decide)) tk T.B_l_draw (v_pen 0 (v_cons (e_int) (v_nil)))) (al_cons (e_call (ps := ["_law_pen_here", "_law_bound"]) ⟨ok_l_draw T, T.g_l_draw, T.F_l_draw.kp⟩ hg (hr.mono (by decide)) tk T.B_l_draw (v_pen 0 (v_cons (e_int) (v_nil)))) (al_nil))) rfl nd rfl (fun a b h1 h2 => Prod.ext (int_inj _ _ h1) (int_inj _ _ h2)) rfl (by decide) (by decide) (by decide) (fun _ => rfl) (fun p => sg_if ((tw_or (t_not (t_truth (e_call (ps := ["_law_sketch", "_law_one", "_law_two"]) ⟨ok_l_adds T, T.g_l_adds, T.F_l_adds.kp⟩ hg (hr.mono (by decide)) tk T.B_l_adds (v_cons (e_nm 2) (v_cons (e_nm 3) (v_cons (e_nm 4) (v_nil))))))) (tw_or1 (t_cmp (cm_neIns T.ic_Plan T.at_Plan_eq T.fn_Plan_eq T.ne_Plan T.ic_Plan.cm ⟨ok_Plan_eq T, T.B_Plan_eq⟩ rfl hg (hr.mono (by decide)) (u1 hr)) (e_call (ps := ["plan", "times"]) ⟨ok_power T, T.g_power, T.F_power.kp⟩ hg (hr.mono (by decide)) tk T.B_power (v_cons (e_call (ps := ["plan", "times"]) ⟨ok_power T, T.g_power, T.F_power.kp⟩ hg (hr.mono (by decide)) tk T.B_power (v_cons (e_nm 2) (v_cons (e_nm 3) (v_nil)))) (v_cons (e_nm 4) (v_nil)))) (e_call (ps := ["plan", "times"]) ⟨ok_power T, T.g_power, T.F_power.kp⟩ hg (hr.mono (by decide)) tk T.B_power (v_cons (e_nm 2) (v_cons (e_mul (e_nm 3) (e_nm 4)) (v_nil))))))).t) rfl
    (sg_retP (d := (.bl false)) (e_bl) rfl rfl)
    (sg_push (sg_if (t_cmp (cm_neIns T.ic_Plan T.at_Plan_eq T.fn_Plan_eq T.ne_Plan T.ic_Plan.cm ⟨ok_Plan_eq T, T.B_Plan_eq⟩ rfl hg (hr.mono (by decide)) (u1 hr)) (e_call (ps := ["plan", "times"]) ⟨ok_power T, T.g_power, T.F_power.kp⟩ hg (hr.mono (by decide)) tk T.B_power (v_cons (e_nm 2) (v_cons (e_nm 3) (v_nil)))) (e_cmeth T.cr_Plan_of T.cm_Plan_of ⟨ok_Plan_of T, T.B_Plan_of⟩ (mc_Plan_of_eq T.C_Plan) (by decide) T.g_Plan hg (hr.mono (by decide)) tk (v_cons (e_rep (e_nm 1) (e_nm 3)) (v_nil)))) rfl
    (sg_retP (d := (.bl false)) (e_bl) rfl rfl)
    (sg_push (sg_asg (f := (fun x => x)) (ρ' := fun restV => [.pen, .d deeds, .d sketch, .d (.int p.1), .d (.int p.2), .d restV]) 5 6 (e_sl (e_prop T.ic_Plan T.pp_Plan_pattern ⟨ok_Plan_pattern T, T.B_Plan_pattern⟩ rfl hg (hr.mono (by decide)) (e_nm 2)) (p_some (e_asI (e_call (ps := ["plan"]) ⟨ok_own_matches T, T.g_own_matches, T.F_own_matches.kp⟩ hg (hr.mono (by decide)) tk T.B_own_matches (v_cons (e_nm 2) (v_nil))))) (p_none)) (g_nm 5 nd) rfl id_inj rfl (by decide) (fun _ => rfl) (fun restV => sg_retT (e_cmp (cm_eq (u64 hr)) (e_prop T.ic_Plan T.pp_Plan_pattern ⟨ok_Plan_pattern T, T.B_Plan_pattern⟩ rfl hg (hr.mono (by decide)) (e_call (ps := ["plan", "times"]) ⟨ok_power T, T.g_power, T.F_power.kp⟩ hg (hr.mono (by decide)) tk T.B_power (v_cons (e_nm 2) (v_cons (e_add (e_nm 3) (e_int)) (v_nil))))) (e_add (e_prop T.ic_Plan T.pp_Plan_pattern ⟨ok_Plan_pattern T, T.B_Plan_pattern⟩ rfl hg (hr.mono (by decide)) (e_nm 2)) (e_repT (e_nm 5) (e_nm 3)))) rfl (fun _ => rfl)))))))))
end
end Q24

namespace Q24
open PySem PySem.Spec L2 PL
section
variable {P : Program} {w : World} {K : PySem.W.Frag} {mg : Str → Option Value} {base : Heap} (T : Facts K mg)
include T
set_option maxHeartbeats 0 in
theorem ok_l_great_right : FnG P w K mg base 12 T.f_l_great_right T.d_l_great_right ["_law_pen_here", "_law_deeds"] (spM ((penG.wt T.tb mg).wc false) K mg 2 m_l_great_right) := by
  have nd := sc_l_great_right.nd
  refine fn_okG (m := m_l_great_right) (Sh := fun args => ∃ deeds : D, args = [.pen, .d deeds]) T.F_l_great_right sc_l_great_right (by decide) (fun args n P PX h => ?_) ?_
  · unfold m_l_great_right at h; split at h
    all_goals first | exact ⟨_, rfl⟩ | exact False.elim h
  · rintro args ⟨deeds, rfl⟩ cdv A outer s H E Wx hg hr tk po
    show SG _ _ _ _ _ EnT (d_l_great_right deeds)
    unfold d_l_great_right
    exact (sg_asg (f := (fun x => x)) (ρ' := fun sketch => [.pen, .d deeds, .d sketch, .un, .un]) 2 5 (e_cmeth T.cr_Plan_of T.cm_Plan_of ⟨ok_Plan_of T, T.B_Plan_of⟩ (mc_Plan_of_eq T.C_Plan) (by decide) T.g_Plan hg (hr.mono (by decide)) tk (v_cons (e_nm 1) (v_nil))) (g_nm 2 nd) rfl id_inj rfl (by decide) (fun _ => rfl) (fun sketch => sg_asg (f := .int) (ρ' := fun one => [.pen, .d deeds, .d sketch, .d (.int one), .un]) 3 5 (e_add (e_powC (v := 1000000000000000000000000) (e_int) (e_int)) (e_call (ps := ["_law_pen_here", "_law_bound"]) ⟨ok_l_draw T, T.g_l_draw, T.F_l_draw.kp⟩ hg (hr.mono (by decide)) tk T.B_l_draw (v_pen 0 (v_cons (e_powC (v := 1000000000000000000000000) (e_int) (e_int)) (v_nil))))) (g_nm 3 nd) rfl int_inj rfl (by decide) (fun _ => rfl) (fun one => sg_asg (f := (fun x => x)) (ρ' := fun two => [.pen, .d deeds, .d sketch, .d (.int one), .d two]) 4 5 (e_ix ((o_lstL (al_cons (e_powC (v := 10000000000000000000000000) (e_int) (e_int)) (al_cons (e_add (e_int) (e_call (ps := ["_law_pen_here", "_law_bound"]) ⟨ok_l_draw T, T.g_l_draw, T.F_l_draw.kp⟩ hg (hr.mono (by decide)) tk T.B_l_draw (v_pen 0 (v_cons (e_powC (v := 10000000000000000000000000) (e_int) (e_int)) (v_nil))))) (al_cons (e_int) (al_cons (e_int) (al_nil)))))).e) (e_call (ps := ["_law_pen_here", "_law_bound"]) ⟨ok_l_draw T, T.g_l_draw, T.F_l_draw.kp⟩ hg (hr.mono (by decide)) tk T.B_l_draw (v_pen 0 (v_cons (e_int) (v_nil))))) (g_nm 4 nd) rfl id_inj rfl (by decide) (fun _ => rfl) (fun two => sg_if ((tw_or (t_not (t_truth (e_call (ps := ["_law_sketch", "_law_one", "_law_two"]) ⟨ok_l_adds T, T.g_l_adds, T.F_l_adds.kp⟩ hg (hr.mono (by decide)) tk T.B_l_adds (v_cons (e_nm 2) (v_cons (e_nm 3) (v_cons (e_nm 4) (v_nil))))))) (tw_or1 (t_not (t_truth (e_call (ps := ["_law_sketch", "_law_one", "_law_two"]) ⟨ok_l_adds T, T.g_l_adds, T.F_l_adds.kp⟩ hg (hr.mono (by decide)) tk T.B_l_adds (v_cons (e_nm 2) (v_cons (e_mul (e_int) (e_powC (v := 10000000000000000000000000000000000000000000000000) (e_int) (e_int))) (v_cons (e_sub (e_powC (v := 10000000000000000000000000000000000000000000000000) (e_int) (e_int)) (e_call (ps := ["_law_pen_here", "_law_bound"]) ⟨ok_l_draw T, T.g_l_draw, T.F_l_draw.kp⟩ hg (hr.mono (by decide)) tk T.B_l_draw (v_pen 0 (v_cons (e_int) (v_nil))))) (v_nil))))))))).t) rfl
    (sg_retP (d := (.bl false)) (e_bl) rfl rfl)
    (sg_push (sg_if ((tw_or (t_cmp (cm_neIns T.ic_Plan T.at_Plan_eq T.fn_Plan_eq T.ne_Plan T.ic_Plan.cm ⟨ok_Plan_eq T, T.B_Plan_eq⟩ rfl hg (hr.mono (by decide)) (u1 hr)) (e_call (ps := ["plan", "times"]) ⟨ok_power T, T.g_power, T.F_power.kp⟩ hg (hr.mono (by decide)) tk T.B_power (v_cons (e_call (ps := ["plan", "times"]) ⟨ok_power T, T.g_power, T.F_power.kp⟩ hg (hr.mono (by decide)) tk T.B_power (v_cons (e_nm 2) (v_cons (e_nm 3) (v_nil)))) (v_cons (e_nm 4) (v_nil)))) (e_call (ps := ["plan", "times"]) ⟨ok_power T, T.g_power, T.F_power.kp⟩ hg (hr.mono (by decide)) tk T.B_power (v_cons (e_nm 2) (v_cons (e_mul (e_nm 3) (e_asI (e_nm 4))) (v_nil))))) (tw_or1 (t_cmp (cm_neIns T.ic_Plan T.at_Plan_eq T.fn_Plan_eq T.ne_Plan T.ic_Plan.cm ⟨ok_Plan_eq T, T.B_Plan_eq⟩ rfl hg (hr.mono (by decide)) (u1 hr)) (e_call (ps := ["plan", "times"]) ⟨ok_power T, T.g_power, T.F_power.kp⟩ hg (hr.mono (by decide)) tk T.B_power (v_cons (e_nm 2) (v_cons (e_nm 3) (v_nil)))) (e_call (ps := ["plan", "times"]) ⟨ok_power T, T.g_power, T.F_power.kp⟩ hg (hr.mono (by decide)) tk T.B_power (v_cons (e_nm 2) (v_cons (e_int) (v_nil))))))).t) rfl
    (sg_retP (d := (.bl false)) (e_bl) rfl rfl)
    (sg_push (sg_retT (e_and (e_cmp (cm_eqIns T.ic_Plan T.at_Plan_eq T.fn_Plan_eq ⟨ok_Plan_eq T, T.B_Plan_eq⟩ rfl hg (hr.mono (by decide)) (Nat.lt_of_succ_lt (u1 hr))) (e_call (ps := ["plan", "times"]) ⟨ok_power T, T.g_power, T.F_power.kp⟩ hg (hr.mono (by decide)) tk T.B_power (v_cons (e_nm 2) (v_cons (e_powC (v := 100000000000000000000000000000000000000000000000000) (e_int) (e_int)) (v_nil)))) (e_mulIns T.ic_Plan T.at_Plan_mul T.fn_Plan_mul T.sf_Plan ⟨ok_Plan_mul T, T.B_Plan_mul⟩ rfl hg (hr.mono (by decide)) (e_nm 2) (e_nm 2))) (e_one (e_cmp (cm_eqIns T.ic_Plan T.at_Plan_eq T.fn_Plan_eq ⟨ok_Plan_eq T, T.B_Plan_eq⟩ rfl hg (hr.mono (by decide)) (Nat.lt_of_succ_lt (u1 hr))) (e_mulIns T.ic_Plan T.at_Plan_mul T.fn_Plan_mul T.sf_Plan ⟨ok_Plan_mul T, T.B_Plan_mul⟩ rfl hg (hr.mono (by decide)) (e_call (ps := ["plan", "times"]) ⟨ok_power T, T.g_power, T.F_power.kp⟩ hg (hr.mono (by decide)) tk T.B_power (v_cons (e_nm 2) (v_cons (e_nm 3) (v_nil)))) (e_nm 2)) (e_call (ps := ["plan", "times"]) ⟨ok_power T, T.g_power, T.F_power.kp⟩ hg (hr.mono (by decide)) tk T.B_power (v_cons (e_nm 2) (v_cons (e_int) (v_nil))))))) rfl (fun _ => rfl)))))))))
end
end Q24

namespace Q24
open PySem PySem.Spec L2 PL
section
variable {P : Program} {w : World} {K : PySem.W.Frag} {mg : Str → Option Value} {base : Heap} (T : Facts K mg)
include T
set_option maxHeartbeats 0 in
theorem ok_law (holds : d_law n0 (fun d _ => d = .bl true) (fun _ _ => False)) : FnG P w K mg base 13 T.f_law T.d_law ["_law_script"] (spLaw K) :=
  have nd := sc_law.nd
  law_defK ((penG.wt T.tb mg).wc false) (b := d_law) (k := 12) (NR := ["_law_turn", "_law_labels_here", "_law_fields", "_law_deeds", "_law_again"]) T.F_law sc_law rfl rfl rfl rfl (by first | exact .inl rfl | exact .inr rfl) (by decide) (by decide) (by decide) ((ok_l_pen T.F_l_pen T.z_list).mono (by decide)) T.g_l_pen T.F_l_pen.kp T.B_l_pen (fun cdv A outer s H E Wx hg hr tk po => by
    unfold d_law
    exact (sg_forI (t := (.nm 2)) (f := D.int) (emb := (fun j : Unit => [.un, .pen, .un, .un, .un, .un, .un])) (e := (fun a j => [.un, .pen, .d (.int a), .un, .un, .un, .un])) po rfl (w_rngK (w_rng1Z (T.z_range) (e_int))) (g_nm 2 nd) rfl (fun _ => rfl) int_inj (Le.same (Le.same (Le.same (Le.same (Le.same (Le.same (Le.same (Le.nil)))))))) (fun x j => rfl) (fun j a b h => int_inj _ _ (by have q := congrArg (·[2]?) h; exact SV.d.inj (Option.some.inj q)))
    (fun turn j => sg_asg2 (f1 := fun a : D × D => a.1) (f2 := fun a : D × D => a.2) (ρ' := fun p => [.un, .pen, .d (.int turn), .d p.1, .d p.2, .un, .un]) 3 4 7 (e_tupL (al_cons (e_call (ps := ["_law_pen_here"]) ⟨ok_l_labels T, T.g_l_labels, T.F_l_labels.kp⟩ hg (hr.mono (by decide)) tk T.B_l_labels (v_pen 1 (v_nil))) (al_cons (e_call (ps := ["_law_pen_here"]) ⟨ok_l_labels T, T.g_l_labels, T.F_l_labels.kp⟩ hg (hr.mono (by decide)) tk T.B_l_labels (v_pen 1 (v_nil))) (al_nil)))) (g_tp rfl (gs_cons (g_nm 3 nd) (gs_cons (g_nm 4 nd) (gs_nil)))) rfl (fun a b h1 h2 => Prod.ext (id_inj _ _ h1) (id_inj _ _ h2)) rfl (by decide) (by decide) (by decide) (fun _ => rfl) (fun p => sg_asgLc (ρ' := fun deeds => [.un, .pen, .d (.int turn), .d p.1, .d p.2, .d (.lst deeds), .un]) (own := [("_law_again", 6)]) (t := (.nm 6)) (f := D.int) (mu := ret) (ee := (fun a ρ => ρ.set 6 (.d (.int a)))) 5 7 (fun _ => rfl) (fun x ρ => setT_1 6 D.int x ρ) rfl nd (w_rng1Z (T.z_range) (e_call (ps := ["_law_pen_here", "_law_bound"]) ⟨ok_l_draw T, T.g_l_draw, T.F_l_draw.kp⟩ hg (hr.mono (by decide)) tk T.B_l_draw (v_pen 1 (v_cons (e_int) (v_nil))))) (blkOk_by (own := [("_law_again", 6)]) (N := sc_law_N) (sc := defScope s_law) (by decide +kernel)) (fun _ _ _ _ _ => g_nm 6 nd) (fun _ _ _ _ _ => ts_nil) (fun _ _ _ _ _ => e_call (ps := ["_law_pen_here", "_law_labels_here", "_law_fields"]) ⟨ok_l_deed T, T.g_l_deed, T.F_l_deed.kp⟩ hg (hr.mono (by decide)) L2.takes0 T.B_l_deed (v_pen 1 (v_cons (e_nm 3) (v_cons (e_nm 4) (v_nil))))) rfl rfl (by decide) (fun _ => rfl) (fun deeds => sg_if ((tw_or (t_not (t_truth (e_call (ps := ["_law_pen_here", "_law_deeds"]) ⟨ok_l_small_right T, T.g_l_small_right, T.F_l_small_right.kp⟩ hg (hr.mono (by decide)) tk T.B_l_small_right (v_pen 1 (v_cons (e_nm 5) (v_nil)))))) (tw_or1 (t_not (t_truth (e_call (ps := ["_law_pen_here", "_law_deeds"]) ⟨ok_l_great_right T, T.g_l_great_right, T.F_l_great_right.kp⟩ hg (hr.mono (by decide)) tk T.B_l_great_right (v_pen 1 (v_cons (e_call (ps := ["_law_pen_here", "_law_labels_here", "_law_fields"]) ⟨ok_l_steady T, T.g_l_steady, T.F_l_steady.kp⟩ hg (hr.mono (by decide)) tk T.B_l_steady (v_pen 1 (v_cons (e_nm 3) (v_cons (e_nm 4) (v_nil))))) (v_nil)))))))).t) rfl
    (sg_retP (d := (.bl false)) (e_bl) rfl ⟨ret (.bl false), rfl, rfl⟩)
    (sg_push (sg_nil ⟨(), rfl, (Le.same (Le.same (Le.un (Le.un (Le.un (Le.un (Le.same (Le.nil))))))))⟩)))))
    (fun j1 => sg_retP (d := (.bl true)) (e_bl) rfl rfl))) holds
end
end Q24

namespace Q24
open PySem PySem.Spec L2 PL
/-! ### words, values, entries drawn -/
theorem foldl_arr : ∀ (l : List (Array Nat)) (acc : Array Nat), (l.foldl (· ++ ·) acc).toList = acc.toList ++ (l.map Array.toList).flatten
  | [], acc => by simp
  | a :: l, acc => by
    rw [List.foldl_cons, foldl_arr l]
    simp
theorem mul_one (c : Nat) {n : Int} (h : 1 ≤ n) : Txt.mul (strL [c]) n = strL (List.replicate n.toNat c) := by
  by_cases h1 : n = 1
  · subst h1
    refine str_ext ?_
    unfold Txt.mul
    rw [if_neg (by decide), if_pos (by rfl)]
    rfl
  refine str_ext ?_
  unfold Txt.mul
  rw [if_neg (by omega), if_neg (by rw [strL_len]; simp; omega)]
  show (List.foldl (· ++ ·) #[] _).toList = List.replicate n.toNat c
  rw [foldl_arr, List.map_replicate]
  show [] ++ (List.replicate n.toNat [c]).flatten = _
  rw [List.nil_append]
  induction n.toNat with
  | zero => rfl
  | succ k ih => rw [List.replicate_succ, List.flatten_cons, ih]; rfl
theorem rep_one (c : Nat) {n : Int} (h1 : 1 ≤ n) (h8 : n ≤ 8) : repSD (.str (strL [c])) (.int n) = ret (.str (strL (List.replicate n.toNat c))) := by
  show bnd (repS (strL [c]) n) _ = _
  have hl : (strL [c]).length = 1 := strL_len [c]
  have hn : n = 1 ∨ n = 2 ∨ n = 3 ∨ n = 4 ∨ n = 5 ∨ n = 6 ∨ n = 7 ∨ n = 8 := by omega
  have : repS (strL [c]) n = ret (Txt.mul (strL [c]) n) := grd_pos ⟨⟨by rcases hn with rfl | rfl | rfl | rfl | rfl | rfl | rfl | rfl <;> decide, fun _ _ => by rw [hl]; rcases hn with rfl | rfl | rfl | rfl | rfl | rfl | rfl | rfl <;> decide, fun _ _ => by rw [hl]; rcases hn with rfl | rfl | rfl | rfl | rfl | rfl | rfl | rfl <;> decide⟩, by
    rw [mul_one c (by omega), strL_len, List.length_replicate, sizeLine_eq]
    omega⟩ _
  rw [this, bnd_ret, mul_one c (by omega)]
def labT (way b k : Int) : List Nat :=
  if way = 0 then [97 + ((b + 5 * k) % 26).toNat] else if way = 1 then List.replicate (2 * k + 1).toNat (97 + b.toNat) else List.replicate 7 (97 + b.toNat) ++ [97 + ((b + 5 * k) % 26).toNat]
theorem lab_turn {p : Int × Int} (h0 : 0 ≤ p.1) (h1 : p.1 < 3) (b0 : 0 ≤ p.2) (b1 : p.2 < 26) {k : Int} (hk : 0 ≤ k) (hk2 : k < 4) (j : List D) : (bnd (bnd (mulI 5 k) fun i => bnd (modI (p.2 + i) 26) fun i1 => ixD (.str (Str.ofString "abcdefghijklmnopqrstuvwxyz")) (.int i1)) fun letter =>
    bnd (bnd (ixD (.str (Str.ofString "abcdefghijklmnopqrstuvwxyz")) (.int p.2)) fun y1 => bnd (mulI 2 k) fun i2 => bnd (repSD y1 (.int (i2 + 1))) fun c => bnd (ixD (.str (Str.ofString "abcdefghijklmnopqrstuvwxyz")) (.int p.2)) fun y2 => bnd (repSD y2 (.int 7)) fun c1 => bnd (addD c1 letter) fun c2 => ixD (.lst [letter, c, c2]) (.int p.1)) fun app => roomL j (
    ret (.go (j ++ [app]))) : W (Step (List D) D)) = roomL j (ret (.go (j ++ [.str (strL (labT p.1 p.2 k))]))) := by
  have m1 : 0 ≤ (p.2 + 5 * k) % 26 := Int.emod_nonneg _ (by decide)
  have m2 : (p.2 + 5 * k) % 26 < 26 := Int.emod_lt_of_pos _ (by decide)
  rw [mulI_ok (by omega), bnd_ret]
  unfold modI
  rw [grd_pos (by decide), bnd_ret, abc_ix m1 m2, bnd_ret, abc_ix b0 b1, bnd_ret, mulI_ok (by omega), bnd_ret, chS_strL, chS_strL, rep_one _ (by omega) (by omega), bnd_ret, bnd_ret, rep_one _ (by decide) (by decide), bnd_ret, addD_strL (by rw [List.length_replicate]; simp only [List.length_singleton]; decide), bnd_ret]
  have hp : p.1 = 0 ∨ p.1 = 1 ∨ p.1 = 2 := by omega
  unfold labT
  rcases hp with h | h | h <;> rw [h]
  · rw [if_pos rfl]; rfl
  · rw [if_neg (by decide), if_pos rfl]; rfl
  · rw [if_neg (by decide), if_neg (by decide)]; rfl
theorem labT_word {way b k : Int} (b0 : 0 ≤ b) (b1 : b < 26) (hk : 0 ≤ k) (hk2 : k < 4) : wordB (.str (strL (labT way b k))) = true := by
  have m1 : 0 ≤ (b + 5 * k) % 26 := Int.emod_nonneg _ (by decide)
  have m2 : (b + 5 * k) % 26 < 26 := Int.emod_lt_of_pos _ (by decide)
  have low := letter_low m1 m2
  have low2 := letter_low b0 b1
  unfold labT
  split
  · exact wordB_strL _ (by simp) (by simp) fun x hx => by rw [List.mem_singleton.mp hx]; exact low
  · split
    · refine wordB_strL _ (by rw [List.length_replicate]; omega) (by rw [List.length_replicate]; omega) fun x hx => ?_
      rw [(List.mem_replicate.mp hx).2]; exact low2
    · refine wordB_strL _ (by simp) (by simp) fun x hx => ?_
      rcases List.mem_append.mp hx with h | h
      · rw [(List.mem_replicate.mp h).2]; exact low2
      · rw [List.mem_singleton.mp h]; exact low
theorem labT_inj {way b k k' : Int} (hk : 0 ≤ k) (hk2 : k < 4) (hk' : 0 ≤ k') (hk2' : k' < 4) (h : labT way b k = labT way b k') : k = k' := by
  have m1 : 0 ≤ (b + 5 * k) % 26 := Int.emod_nonneg _ (by decide)
  have m2 : 0 ≤ (b + 5 * k') % 26 := Int.emod_nonneg _ (by decide)
  have key : 97 + ((b + 5 * k) % 26).toNat = 97 + ((b + 5 * k') % 26).toNat → k = k' := fun e => by omega
  unfold labT at h
  split at h
  · exact key (List.cons.inj h).1
  · split at h
    · have := congrArg List.length h
      rw [List.length_replicate, List.length_replicate] at this
      omega
    · exact key (List.cons.inj (List.append_inj_right h rfl)).1
/-- different words -/
def LbN (d : D) : Prop := ∃ ss : List Str, d = .lst (ss.map .str) ∧ 2 ≤ ss.length ∧ ss.length ≤ 4 ∧ ss.Nodup ∧ ∀ s ∈ ss, wordB (.str s) = true
theorem labels_gen : Gen d_l_labels 3 LbN := by
  unfold d_l_labels
  simp only [bnd_bnd]
  refine (Gen.dr (c := 2) (by decide) (by decide) fun r q0 q1 => ?_).up (by decide)
  refine (Gen.dr (c := 1) (by decide) (by decide) fun b q2 q3 => ?_).up (by decide)
  rw [bnd_ret]
  refine (Gen.dr (c := 0) (by decide) (by decide) fun r2 z0 z1 => ?_).up (by decide)
  rw [rngI_ret (by omega), bnd_ret]
  rw [app_run (lab := fun k => .str (strL (labT r b k))) (fun x hx j => ?_) (by rw [rngZ_len]; simp only [List.length_nil]; omega)]
  · refine Gen.ret ⟨(rngZ 0 (2 + r2).toNat).map fun k => strL (labT r b k), ?_, ?_, ?_, ?_, fun s hs => ?_⟩
    · rw [List.map_map]; rfl
    · rw [List.length_map, rngZ_len]; omega
    · rw [List.length_map, rngZ_len]; omega
    · unfold rngZ
      rw [List.map_map]
      refine List.pairwise_map.mpr ((List.nodup_range (n := (2 + r2).toNat)).imp_of_mem fun {i j} hi hj hne e => hne ?_)
      have hi := List.mem_range.mp hi
      have hj := List.mem_range.mp hj
      have : (0 + (i : Int)) = (0 + (j : Int)) := labT_inj (by omega) (by omega) (by omega) (by omega) (strL_inj e)
      omega
    · obtain ⟨k, hk, rfl⟩ := List.mem_map.mp hs
      have := rngZ_mem hk
      exact labT_word q2 q3 (by omega) (by omega)
  · have := rngZ_mem hx
    have := lab_turn (p := (r, b)) q0 q1 q2 q3 (k := x) (by omega) (by omega) j
    simp only [bnd_bnd] at this
    exact this
theorem number_gen : Gen d_l_number 2 (fun d => numB d = true) := by
  unfold d_l_number
  refine Gen.dr (c := 1) (by decide) (by decide) fun r h0 h1 => ?_
  refine Gen.dr (c := 0) (by decide) (by decide) fun q h2 h3 => Gen.pickL0 h2 (by simpa using h3) fun y hy => ?_
  simp only [List.mem_cons, List.not_mem_nil, or_false] at hy
  have hn : ∀ i : Int, -1000000000000000000 ≤ i → i ≤ 1000000000000000000 → numB (.int i) = true := fun i h1 h2 => by simp only [numB, Bool.and_eq_true, decide_eq_true_eq]; exact ⟨by omega, by omega⟩
  rcases hy with rfl | rfl | rfl | rfl <;> exact hn _ (by omega) (by omega)
theorem pickS {ss : List Str} (h0 : 0 < ss.length) (h1 : ss.length < 1000) : Gen (bnd (lenI (.lst (ss.map D.str))) fun n => bnd (drw n) fun r1 => ixD (.lst (ss.map .str)) (.int r1)) 1 (fun d => ∃ s ∈ ss, d = .str s) := by
  rw [lenI_lst, bnd_ret, List.length_map]
  refine Gen.dr (c := 0) (by omega) (by omega) fun r h2 h3 => Gen.pickL0 h2 (by rw [List.length_map]; exact h3) fun x hx => ?_
  obtain ⟨s, hs, rfl⟩ := List.mem_map.mp hx
  exact ⟨s, hs, rfl⟩
/-! ### what a plan is drawn from; commands -/
structure Kn (K N : List Str) : Prop where
  kw : ∀ s ∈ K, wordB (.str s) = true
  nw : ∀ s ∈ N, wordB (.str s) = true
  kn : K.Nodup
  kl : K.length ≤ 8
  nl : N.length ≤ 8
  k0 : 0 < K.length
  n0 : 0 < N.length
inductive Cm (K N : List Str) : D → Prop
  | set {s : Str} {x : D} (h : s ∈ K) (hx : numB x = true) : Cm K N (.tup [.str (Str.ofString "set"), .str s, x])
  | del {s : Str} (h : s ∈ K) : Cm K N (.tup [.str (Str.ofString "del"), .str s])
  | mark {s : Str} (h : s ∈ N) : Cm K N (.tup [.str (Str.ofString "mark"), .str s])
  | back {s : Str} (h : s ∈ N) : Cm K N (.tup [.str (Str.ofString "back"), .str s])
  | keep {s : Str} (h : s ∈ N) : Cm K N (.tup [.str (Str.ofString "keep"), .str s])
def places (xs : List D) (s : Str) : List Int := (rngZ 0 xs.length).filter fun i => match xs[i.toNat]? with | some (.tup (.str t :: _)) => t == s | _ => false
def Nmd (x : D) : Prop := ∃ t r, x = .tup (.str t :: r)
end Q24

namespace Q24
open PySem PySem.Spec L2 PL
/-! ### words, values, maps of the program -/
theorem is_word_eq (x : D) : d_is_word x = ret (.bl (wordB x)) := by
  unfold d_is_word
  cases x with
  | str s =>
    simp only [isT, lenI, codesD, bnd_ret, thenB_bl, blB_bl, orB_ret, Bool.not_true, Bool.false_or]
    by_cases h1 : 1 ≤ (s.length : Int)
    · by_cases h2 : (s.length : Int) ≤ 8
      · simp only [h1, h2, decide_true, Bool.and_self, Bool.not_true, Bool.false_eq_true, if_false]
        rw [mapP_ret (g := fun k => .bl (lower k)) (short8 h2) fun k _ => in_abc k, bnd_ret, all_bls]
        simp [wordB, h1, h2]
      · simp [h1, h2, wordB]
    · simp [h1, wordB]
  | _ => simp [isT, orB, bnd_ret, wordB]
theorem is_integer_eq (x : D) : d_is_integer x = ret (.bl (match x with | .int _ => true | _ => false)) := by
  unfold d_is_integer
  cases x <;> rfl
theorem is_value_eq (x : D) : d_is_value x = ret (.bl (numB x)) := by
  unfold d_is_value d_is_between
  rw [is_integer_eq]
  cases x with
  | int i =>
    simp only [cl_ret, andD_t, leD_int, thenB_bl]
    rfl
  | _ => simp only [cl_ret, andD_f, numB]
section
variable {v : D → Bool} {a b : List (Key × D)}
theorem over_same (ha : DI v a) (hb : DI v b) {j : List (Key × D)} (hj : DI v j) (e : ∀ s, valD j (.inr s) = (valD b (.inr s)).or (valD a (.inr s))) : pairsOf j = pairsOf (mergeD a b) :=
  pairsOf_congr hj (DI.merge ha hb.1).1 fun s => by rw [e, valD_merge _ _ _ hb.2]
theorem overlaid_eq (ha : DI v a) (hb : DI v b) (hl : a.length + b.length < 64) : d_overlaid (.tup (pairsOf a)) (.tup (pairsOf b)) = ret (.tup (pairsOf (mergeD a b))) := by
  obtain ⟨h1, h2, h3⟩ := sort_over ha hb
  unfold d_overlaid
  rw [dictW_of ha, bnd_ret, dictW_of hb, bnd_ret, overW_ok (by rw [sortK_len, sortK_len]; omega), bnd_ret, merge_nil (sortK_DI ha)]
  refine cl_eq ?_
  unfold d_pairs_of
  rw [pairs_ret h1 (by omega), over_same ha hb h1 h3]
end
theorem are_pairs_turn (pair : D) (last : Str) : (bnd (orB (ret (!(isT .tup pair))) (orB (bnd (lenI pair) fun n => ret (!decide (n = 2))) (orB (bnd (ixD pair (.int 0)) fun y => bnd (cl (d_is_word y)) fun y1 => bnd (tru y1) fun k => ret (!k)) (bnd (ixD pair (.int 0)) fun y2 => bnd (leD y2 (.str last)) fun k1 => blB k1)))) fun kk => if kk = true then
    ret (.out (.bl false))
    else
    bnd (ixD pair (.int 0)) fun last =>
    ret (.go last) : W (Step D D)) = ret (stP pair (.str last)) := by
  cases pair with
  | tup xs =>
    match xs with
    | [] => simp [isT, lenI, orB, bnd_ret, stP, pairK]
    | [a] => simp [isT, lenI, orB, bnd_ret, stP, pairK]
    | [.str a, x] =>
      simp only [isT, lenI, bnd_ret, ix0, is_word_eq, cl_ret, tru_bl, leD_str, blB_bl, orB_ret, Bool.not_true, Bool.false_or, List.length_cons, List.length_nil, stP, pairK]
      cases wordB (.str a) <;> cases ltQ last a <;> rfl
    | [.non, x] | [.bl _, x] | [.int _, x] | [.lst _, x] | [.tup _, x] | [.dic _, x] | [.ins _ _ _, x] => simp [isT, lenI, orB, bnd_ret, ix0, is_word_eq, cl_ret, tru_bl, wordB, stP, pairK]
    | a :: b :: c :: l =>
      have h : ¬ ((l.length : Int) + 1 + 1 + 1 = 2) := by omega
      simp [isT, lenI, orB, bnd_ret, stP, pairK, h]
  | _ => simp [isT, orB, bnd_ret, stP, pairK]
theorem are_pairs_eq (x : D) : d_are_pairs x = ret (.bl (pairsB (fun _ => true) x)) := by
  unfold d_are_pairs
  cases x with
  | tup xs =>
    simp only [isT, Bool.not_true, Bool.false_eq_true, if_false, items_tup, bnd_ret]
    rw [forT_run (st := stP) (I := fun j => ∃ s, j = .str s) (fun x _ j ⟨s, e⟩ => by
      subst e
      refine ⟨are_pairs_turn x s, fun j' h => ?_⟩
      unfold stP at h
      split at h
      · split at h
        · cases h; exact ⟨_, rfl⟩
        · cases h
      · cases h) ⟨_, rfl⟩]
    exact run_pairs xs _
  | _ => simp [isT, pairsB]
theorem is_map_eq {B k : Nat} {x : D} (h : Sz B k x) (hB : B ≤ 200000) : d_is_map x = ret (.bl (pairsB (vg true) x)) := by
  unfold d_is_map
  rw [are_pairs_eq, cl_ret]
  cases x with
  | tup xs =>
    have hl : xs.length ≤ 1000000 := by
      obtain ⟨_, _, _, hb⟩ := h.of_tup
      have := bulks_len xs
      omega
    cases q : ascB (fun _ => true) (Str.ofString "") xs with
    | false =>
      rw [show pairsB (fun _ => true) (.tup xs) = false from q, andD_f]
      show _ = ret (D.bl (ascB (vg true) (Str.ofString "") xs))
      rw [asc_none _ _ _ q]
    | true =>
      rw [show pairsB (fun _ => true) (.tup xs) = true from q, andD_t]
      simp only [items_tup, bnd_ret]
      rw [mapP_ret (g := fun p => .bl ((fun p => match p with | .tup [_, y] => vg true y | _ => false) p)) hl (fun x hx => by
        obtain ⟨a, y, rfl, _, _⟩ := asc_shape q x hx
        rw [ix1, bnd_ret, bnd_ret, is_value_eq, cl_ret]
        show orD (ret (D.bl (isNone y))) (ret (D.bl (numB y))) = ret (D.bl (isNone y || numB y))
        cases isNone y <;> rfl), bnd_ret, all_bls]
      show _ = ret (D.bl (ascB (vg true) (Str.ofString "") xs))
      rw [asc_all (vg true) _ (fun a y => rfl) xs _ q]
  | _ => simp only [pairsB, andD_f]
/-! ### what the program does behind a command -/
theorem find_run {α γ : Type} {bd : α → Unit → W (Step Unit γ)} {k : Unit → W γ} {p : α → Bool} {g : α → γ} : ∀ {L : List α}, (∀ x ∈ L, bd x () = ret (if p x = true then .out (g x) else .go ())) → forT bd k L () = match L.find? p with | some x => ret (g x) | none => k ()
  | [], _ => rfl
  | x :: L, h => by
    show bnd (bd x ()) _ = _
    rw [h x List.mem_cons_self, bnd_ret, List.find?_cons]
    cases p x with
    | true => rfl
    | false => exact find_run fun y hy => h y (List.mem_cons_of_mem _ hy)
theorem rngDn_rev (n : Nat) : rngDn ((n : Int) - 1) n = (rngZ 0 n).reverse := by
  refine List.ext_getElem? fun i => ?_
  unfold rngDn rngZ
  by_cases h : i < n
  · rw [List.getElem?_map, List.getElem?_range h, List.getElem?_reverse (by simpa using h), List.getElem?_map, List.length_map, List.length_range, List.getElem?_range (by omega)]
    show some ((n : Int) - 1 + (i : Int) * (-1)) = some ((0 : Int) + ((n - 1 - i : Nat) : Int))
    congr 1
    omega
  · rw [List.getElem?_eq_none (by simp; omega), List.getElem?_eq_none (by simp; omega)]
def plB (xs : List D) (s : Str) (i : Int) : Bool := match xs[i.toNat]? with | some (.tup (.str t :: _)) => t == s | _ => false
theorem places_def (xs : List D) (s : Str) : places xs s = (rngZ 0 xs.length).filter (plB xs s) := rfl
def plD (xs : List D) (s : Str) : D := match (places xs s).getLast? with | some i => .int i | none => .non
theorem nearest_eq {xs : List D} {s : Str} (hx : ∀ x ∈ xs, Nmd x) (hl : xs.length ≤ 1000) : d_nearest_place (.tup xs) (.str s) = ret (plD xs s) := by
  unfold d_nearest_place
  rw [lenI_tup, bnd_ret]
  unfold rngM
  rw [grd_pos (by unfold inR; omega), bnd_ret, show ((xs.length : Int) - 1 - -1).toNat = xs.length by omega, rngDn_rev]
  rw [find_run (p := plB xs s) (g := fun i => .int i) fun i hi => ?_]
  · unfold plD
    rw [places_def, ← List.head?_reverse, ← List.filter_reverse, List.head?_filter]
    cases ((rngZ 0 xs.length).reverse.find? (plB xs s)) <;> rfl
  · have hm := rngZ_mem (List.mem_reverse.mp hi)
    obtain ⟨n, rfl⟩ := Int.eq_ofNat_of_zero_le hm.1
    have hn : n < xs.length := by omega
    obtain ⟨u, r, e⟩ := hx xs[n] (List.getElem_mem hn)
    rw [ix_atT hn, bnd_ret, e, ix0, bnd_ret, eqB_str, bnd_ret]
    have e2 : plB xs s (n : Int) = (u == s) := by
      show (match xs[n]? with | some (.tup (.str t :: _)) => t == s | _ => false) = _
      rw [List.getElem?_eq_getElem hn, e]
    show _ = PL.ret (if plB xs s (n : Int) = true then _ else _)
    rw [e2]
    cases (u == s) <;> rfl
theorem plD_none {xs : List D} {s : Str} (h : places xs s = []) : plD xs s = .non := by unfold plD; rw [h]; rfl
theorem is_write_eq (c : Str) (xs : List D) : d_is_write (.tup (.str c :: xs)) = ret (.bl (wSet == c || wDel == c)) := by
  unfold d_is_write
  rw [ix0, bnd_ret, in_two]
theorem one_map {s : Str} {x : D} (hs : wordB (.str s) = true) (hx : vg true x = true) : DI (vg true) [(.inr s, x)] ∧ D.tup [.tup [.str s, x]] = .tup (pairsOf [(.inr s, x)]) := by
  have e : ([(Sum.inr s, x)] : List (Key × D)) = KF [s] fun _ => x := rfl
  rw [e, pairsOf_KF (by simp)]
  exact ⟨DI.kf (by simp) fun t ht => by rw [List.mem_singleton.mp ht]; exact ⟨hs, hx⟩, rfl⟩
theorem in_four (a b c d e : Str) : inFlat false (.str a) (.tup [.str b, .str c, .str d, .str e]) = ret (.bl (b == a || (c == a || (d == a || e == a)))) := by
  show grd _ _ = _
  rw [grd_pos ⟨rfl, rfl⟩]
  simp [scEq]
theorem is_command_ok {K N : List Str} (h : Kn K N) {row : D} (hr : Cm K N row) : d_is_command row = ret (.bl true) := by
  unfold d_is_command
  cases hr with
  | set hs hv =>
    rename_i s x
    simp only [isT, lenI_tup, ix0, ix1, ix2, bnd_ret, is_word_eq, h.kw s hs, cl_ret, tru_bl, orB_ret, eqB_str, beq_self_eq_true, if_true, is_value_eq, hv, List.length_cons, List.length_nil]
    rfl
  | del hs =>
    rename_i s
    simp only [isT, lenI_tup, ix0, ix1, bnd_ret, is_word_eq, h.kw s hs, cl_ret, tru_bl, orB_ret, eqB_str, w_ds, in_four, beq_self_eq_true, List.length_cons, List.length_nil]
    rfl
  | mark hs =>
    rename_i s
    simp only [isT, lenI_tup, ix0, ix1, bnd_ret, is_word_eq, h.nw s hs, cl_ret, tru_bl, orB_ret, eqB_str, w_ms, in_four, beq_self_eq_true, List.length_cons, List.length_nil, Bool.or_true, Bool.true_or]
    rfl
  | back hs =>
    rename_i s
    simp only [isT, lenI_tup, ix0, ix1, bnd_ret, is_word_eq, h.nw s hs, cl_ret, tru_bl, orB_ret, eqB_str, w_bs, in_four, beq_self_eq_true, List.length_cons, List.length_nil, Bool.or_true, Bool.true_or]
    rfl
  | keep hs =>
    rename_i s
    simp only [isT, lenI_tup, ix0, ix1, bnd_ret, is_word_eq, h.nw s hs, cl_ret, tru_bl, orB_ret, eqB_str, w_ks, in_four, beq_self_eq_true, List.length_cons, List.length_nil, Bool.or_true, Bool.true_or]
    rfl
theorem valid_run {k : Unit → W D} : ∀ (rs : List D) (i : Nat), (∀ r ∈ rs, d_is_command r = ret (.bl true)) → forT (fun (p : Int × D) (j : Unit) =>
    bnd (bnd (cl (d_is_command p.2)) fun y => bnd (tru y) fun k1 => ret (!k1)) fun kk => if kk = true then
    ret (.out (.tup [(.int p.1)]))
    else
    ret (.go ())) k (enumZ i rs) () = k ()
  | [], _, _ => rfl
  | r :: rs, i, h => by
    show bnd (bnd (bnd (cl (d_is_command r)) _) _) _ = _
    rw [h r List.mem_cons_self, cl_ret, bnd_ret, tru_bl, bnd_ret, bnd_ret]
    exact valid_run rs (i + 1) fun x hx => h x (List.mem_cons_of_mem _ hx)
theorem need_ok {rs : List D} {d : D} (hd : d = .lst rs ∨ d = .tup rs) (hl : rs.length ≤ 60) (h : ∀ r ∈ rs, d_is_command r = ret (.bl true)) : d_need_script d = ret .non := by
  have e1 : isA [.tup, .lst] d = true := by rcases hd with rfl | rfl <;> rfl
  have e2 : lenI d = ret (rs.length : Int) := by rcases hd with rfl | rfl <;> rfl
  have e3 : enumI d = ret (enumZ 0 rs) := by rcases hd with rfl | rfl <;> rfl
  have e : d_first_invalid d = ret (.tup []) := by
    unfold d_first_invalid
    rw [e1, e2, bnd_ret, Bool.not_true, orB_ret, bnd_ret, show (false || decide (60 < (rs.length : Int))) = false by simp; omega, if_neg (by decide), e3, bnd_ret]
    exact valid_run rs 0 h
  unfold d_need_script
  rw [e, cl_ret, bnd_ret, neB_same okD_nil, bnd_ret]
  rfl
end Q24

namespace Q24
open PySem PySem.Spec L2 PL
/-! ### plans and scripts over maps that are functions -/
abbrev Fm := Str → Option D
def ovr (a b : Fm) : Fm := fun s => (b s).or (a s)
def appF (a b : Fm) : Fm := fun s => ((b s).or (a s)).filter fun x => !isNone x
def oneF (k : Str) (x : D) : Fm := fun s => if s = k then some x else none
def nilF : Fm := fun _ => none
def Nn (a : Fm) : Prop := ∀ s, (a s).filter (fun x => !isNone x) = a s
theorem filt_filt {p : D → Bool} (o : Option D) : (o.filter p).filter p = o.filter p := by
  cases o with
  | none => rfl
  | some x => cases h : p x <;> simp [Option.filter, h]
theorem Nn.app (a b : Fm) : Nn (appF a b) := fun s => filt_filt _
inductive Cd where
  | wr (k : Str) (x : D) | mark (n : Str) | back (n : Str) | keep (n : Str)
/-- marks, from the top -/
abbrev Rp := List (Str × Fm)
def cut (n : Str) : Rp → Option (Fm × Rp)
  | [] => none
  | m :: r => if m.1 = n then some (m.2, r) else cut n r
def aft : Cd → Fm × Rp → Option (Fm × Rp)
  | .wr k x, s => some (appF s.1 (oneF k x), s.2)
  | .mark n, s => some (s.1, (n, s.1) :: s.2)
  | .back n, s => (cut n s.2).map fun z => (z.1, (n, z.1) :: z.2)
  | .keep n, s => (cut n s.2).map fun z => (s.1, z.2)
structure Prt where
  pat : List Str
  src : Nat
  fr : Rp
  wr : Fm
def ext (p : Prt) : Cd → Prt
  | .wr k x => { p with wr := ovr p.wr (oneF k x) }
  | .mark n => { p with fr := (n, p.wr) :: p.fr }
  | .back n => match cut n p.fr with
    | some z => { p with fr := (n, z.1) :: z.2, wr := z.1 }
    | none => ⟨p.pat ++ [n], p.pat.length + 1, [(n, nilF)], nilF⟩
  | .keep n => match cut n p.fr with
    | some z => { p with fr := z.2 }
    | none => { p with pat := p.pat ++ [n], fr := [] }
def emp : Prt := ⟨[], 0, [], nilF⟩
def hit : List Str → Rp → Option (List Fm × Rp)
  | [], r => some ([], r)
  | n :: ns, r => (cut n r).bind fun z => (hit ns z.2).map fun q => (z.1 :: q.1, q.2)
def base (p : Prt) (a : Fm) (l : List Fm) : Fm := if p.src = 0 then a else l.getD (p.src - 1) a
def push (b : Fm) (m : Str × Fm) : Str × Fm := (m.1, appF b m.2)
theorem cut_mem {n : Str} : ∀ {r : Rp} {z : Fm × Rp}, cut n r = some z → (n, z.1) ∈ r ∧ (∀ m ∈ z.2, m ∈ r) ∧ z.2.length < r.length
  | [], _, h => by cases h
  | m :: r, z, h => by
    unfold cut at h
    by_cases e : m.1 = n
    · rw [if_pos e] at h
      cases h
      subst e
      exact ⟨List.mem_cons_self, fun x hx => List.mem_cons_of_mem _ hx, Nat.lt_succ_self _⟩
    · rw [if_neg e] at h
      obtain ⟨h1, h2, h3⟩ := cut_mem h
      exact ⟨List.mem_cons_of_mem _ h1, fun x hx => List.mem_cons_of_mem _ (h2 x hx), Nat.lt_succ_of_lt h3⟩
theorem ext_back1 {p : Prt} {n : Str} {z : Fm × Rp} (e : cut n p.fr = some z) : ext p (.back n) = { p with fr := (n, z.1) :: z.2, wr := z.1 } := by
  show (match cut n p.fr with | some z => ({ p with fr := (n, z.1) :: z.2, wr := z.1 } : Prt) | none => ⟨p.pat ++ [n], p.pat.length + 1, [(n, nilF)], nilF⟩) = _
  rw [e]
theorem ext_back0 {p : Prt} {n : Str} (e : cut n p.fr = none) : ext p (.back n) = ⟨p.pat ++ [n], p.pat.length + 1, [(n, nilF)], nilF⟩ := by
  show (match cut n p.fr with | some z => ({ p with fr := (n, z.1) :: z.2, wr := z.1 } : Prt) | none => ⟨p.pat ++ [n], p.pat.length + 1, [(n, nilF)], nilF⟩) = _
  rw [e]
theorem ext_keep1 {p : Prt} {n : Str} {z : Fm × Rp} (e : cut n p.fr = some z) : ext p (.keep n) = { p with fr := z.2 } := by
  show (match cut n p.fr with | some z => ({ p with fr := z.2 } : Prt) | none => { p with pat := p.pat ++ [n], fr := [] }) = _
  rw [e]
theorem ext_keep0 {p : Prt} {n : Str} (e : cut n p.fr = none) : ext p (.keep n) = { p with pat := p.pat ++ [n], fr := [] } := by
  show (match cut n p.fr with | some z => ({ p with fr := z.2 } : Prt) | none => { p with pat := p.pat ++ [n], fr := [] }) = _
  rw [e]
theorem ext_src {p : Prt} (h : p.src ≤ p.pat.length) (c : Cd) : (ext p c).src ≤ (ext p c).pat.length := by
  cases c with
  | wr k x => exact h
  | mark n => exact h
  | back n =>
    cases e : cut n p.fr with
    | some z => rw [ext_back1 e]; exact h
    | none => rw [ext_back0 e]; show p.pat.length + 1 ≤ (p.pat ++ [n]).length; simp
  | keep n =>
    cases e : cut n p.fr with
    | some z => rw [ext_keep1 e]; exact h
    | none => rw [ext_keep0 e]; show p.src ≤ (p.pat ++ [n]).length; simp; omega
def walk : List Cd → Fm × Rp → Option (Fm × Rp)
  | [], s => some s
  | c :: cs, s => (aft c s).bind (walk cs)
/-! ### maps, marks, states, parts as data -/
def RF (v : D → Bool) (K : List Str) (t : D) (f : Fm) : Prop := ∃ j, DI v j ∧ (∀ s ∈ keysS j, s ∈ K) ∧ t = .tup (pairsOf j) ∧ ∀ s, valD j (.inr s) = f s
theorem RF.uniq {v w : D → Bool} {K K' : List Str} {t t' : D} {f : Fm} (h : RF v K t f) (h' : RF w K' t' f) : t = t' := by
  obtain ⟨j, d, _, rfl, e⟩ := h
  obtain ⟨j', d', _, rfl, e'⟩ := h'
  rw [pairsOf_congr d d' fun s => (e s).trans (e' s).symm]
theorem DI.lenK {v : D → Bool} {K : List Str} {j : List (Key × D)} (h : DI v j) (hk : ∀ s ∈ keysS j, s ∈ K) : j.length ≤ K.length := by
  have := nodup_len (keysS_nodup h) hk
  unfold keysS at this
  rwa [List.length_map] at this
theorem RF.keys {v : D → Bool} {j : List (Key × D)} {K : List Str} {f : Fm} (d : DI v j) (e : ∀ s, valD j (.inr s) = f s) (h : ∀ s, (f s).isSome = true → s ∈ K) : ∀ s ∈ keysS j, s ∈ K := fun s hs => h s (by rw [← e]; exact (mem_keysS d s).mp hs)
theorem RF.up {K : List Str} {t : D} {f : Fm} (h : RF numB K t f) : RF (vg true) K t f := by
  obtain ⟨j, d, k, e1, e2⟩ := h
  exact ⟨j, d.mono num_vg, k, e1, e2⟩
theorem RF.over {K : List Str} (hK : K.length ≤ 8) {a b : D} {f g : Fm} (ha : RF (vg true) K a f) (hb : RF (vg true) K b g) : ∃ c : D, d_overlaid a b = ret c ∧ RF (vg true) K c (ovr f g) := by
  obtain ⟨j, d, k, rfl, e⟩ := ha
  obtain ⟨j', d', k', rfl, e'⟩ := hb
  have l1 := DI.lenK d k
  have l2 := DI.lenK d' k'
  have ev : ∀ s, valD (mergeD j j') (.inr s) = ovr f g s := fun s => by rw [valD_merge _ _ _ d'.2, e, e']; rfl
  refine ⟨_, overlaid_eq d d' (by omega), mergeD j j', (merge_facts d d').1, RF.keys (merge_facts d d').1 ev fun s hs => ?_, rfl, ev⟩
  unfold ovr at hs
  cases q : g s with
  | some y => rw [← e'] at q; exact k' s ((mem_keysS d' s).mpr (by rw [q]; rfl))
  | none => rw [q] at hs; rw [Option.none_or, ← e] at hs; exact k s ((mem_keysS d s).mpr hs)
theorem RF.one {K : List Str} {k : Str} {x : D} (hk : k ∈ K) (hw : wordB (.str k) = true) (hx : vg true x = true) : RF (vg true) K (.tup [.tup [.str k, x]]) (oneF k x) := by
  obtain ⟨h1, e1⟩ := one_map hw hx
  refine ⟨_, h1, fun s hs => ?_, e1, fun s => ?_⟩
  · have : s ∈ [k] := hs
    rw [List.mem_singleton.mp this]; exact hk
  · rw [valD_cons]
    unfold oneF
    by_cases h : s = k
    · rw [if_pos h, if_pos (by rw [h])]
    · rw [if_neg h, if_neg fun z => h (Sum.inr.inj z).symm]; rfl
theorem RF.nil {v : D → Bool} {K : List Str} : RF v K (.tup []) nilF := ⟨[], DI.nil, fun s hs => (nomatch hs), by simp [pairsOf, keysS, sortT], fun s => rfl⟩
/-! marks, from the top -/
def RM (v : D → Bool) (K N : List Str) (x : D) (m : Str × Fm) : Prop := m.1 ∈ N ∧ ∃ t, RF v K t m.2 ∧ x = .tup [.str m.1, t]
def RL (v : D → Bool) (K N : List Str) : List D → Rp → Prop
  | [], r => r = []
  | x :: xs, r => ∃ m r', r = m :: r' ∧ RM v K N x m ∧ RL v K N xs r'
section
variable {v : D → Bool} {K N : List Str}
theorem RL.len : ∀ {xs : List D} {r : Rp}, RL v K N xs r → xs.length = r.length
  | [], r, h => by
    have h : r = [] := h
    rw [h]
    rfl
  | x :: xs, _, h => by
    obtain ⟨m, r', rfl, _, h⟩ := h
    show xs.length + 1 = r'.length + 1
    rw [RL.len h]
theorem RL.app : ∀ {xs ys : List D} {r q : Rp}, RL v K N xs r → RL v K N ys q → RL v K N (xs ++ ys) (r ++ q)
  | [], ys, r, q, h, h2 => by
    have h : r = [] := h
    rw [h]; exact h2
  | x :: xs, ys, _, q, h, h2 => by
    obtain ⟨m, r', rfl, hm, h⟩ := h
    exact ⟨m, r' ++ q, rfl, hm, RL.app h h2⟩
theorem RL.all : ∀ {xs : List D} {r : Rp}, RL v K N xs r → ∀ m ∈ r, ∃ x ∈ xs, RM v K N x m
  | [], r, h, m, hm => by
    have h : r = [] := h
    rw [h] at hm; cases hm
  | x :: xs, _, h, m, hm => by
    obtain ⟨m', r', rfl, h1, h⟩ := h
    rcases List.mem_cons.mp hm with rfl | hm
    · exact ⟨x, List.mem_cons_self, h1⟩
    · obtain ⟨y, hy, h2⟩ := RL.all h m hm
      exact ⟨y, List.mem_cons_of_mem _ hy, h2⟩
theorem RL.allX : ∀ {xs : List D} {r : Rp}, RL v K N xs r → ∀ x ∈ xs, ∃ m ∈ r, RM v K N x m
  | [], _, _, x, hx => nomatch hx
  | x :: xs, _, h, y, hy => by
    obtain ⟨m', r', rfl, h1, h⟩ := h
    rcases List.mem_cons.mp hy with rfl | hy
    · exact ⟨m', List.mem_cons_self, h1⟩
    · obtain ⟨m, hm, h2⟩ := RL.allX h y hy
      exact ⟨m, List.mem_cons_of_mem _ hm, h2⟩
theorem RL.nmd {xs : List D} {r : Rp} (h : RL v K N xs r) : ∀ x ∈ xs.reverse, Nmd x := fun x hx => by
  obtain ⟨m, _, _, t, _, e⟩ := h.allX x (List.mem_reverse.mp hx)
  exact ⟨m.1, [t], e⟩
def nmB (n : Str) (x : D) : Bool := match some x with | some (.tup (.str t :: _)) => t == n | _ => false
theorem RM.nm {x : D} {m : Str × Fm} (h : RM v K N x m) (n : Str) : nmB n x = (m.1 == n) := by
  obtain ⟨_, t, _, rfl⟩ := h
  rfl
theorem cutL (n : Str) : ∀ {xs : List D} {r : Rp}, RL v K N xs r → match cut n r with
    | none => ∀ x ∈ xs, nmB n x = false
    | some z => ∃ pre y ys, xs = pre ++ y :: ys ∧ RM v K N y (n, z.1) ∧ RL v K N ys z.2 ∧ ∀ x ∈ pre, nmB n x = false
  | [], r, h => by
    have h : r = [] := h
    rw [h]; exact fun x hx => nomatch hx
  | x :: xs, _, h => by
    obtain ⟨m, r', rfl, h1, h⟩ := h
    show match (if m.1 = n then some (m.2, r') else cut n r') with | none => _ | some z => _
    by_cases e : m.1 = n
    · rw [if_pos e]
      subst e
      exact ⟨[], x, xs, rfl, h1, h, fun x hx => nomatch hx⟩
    · rw [if_neg e]
      have q := cutL n h
      have hx : nmB n x = false := by rw [h1.nm]; exact beq_false_of_ne e
      cases ec : cut n r' with
      | none =>
        rw [ec] at q
        intro y hy
        rcases List.mem_cons.mp hy with rfl | hy
        · exact hx
        · exact q y hy
      | some z =>
        rw [ec] at q
        obtain ⟨pre, y, ys, rfl, q1, q2, q3⟩ := q
        refine ⟨x :: pre, y, ys, rfl, q1, q2, fun w hw => ?_⟩
        rcases List.mem_cons.mp hw with rfl | hw
        · exact hx
        · exact q3 w hw
end
theorem rngZ_snoc (n : Nat) : rngZ 0 (n + 1) = rngZ 0 n ++ [(n : Int)] := by
  unfold rngZ
  rw [List.range_succ, List.map_append]
  show _ ++ [(0 : Int) + (n : Int)] = _
  rw [Int.zero_add]
theorem plB_at {xs : List D} {s : Str} {i : Nat} {x : D} (h : xs[i]? = some x) : plB xs s (i : Int) = nmB s x := by
  unfold plB nmB
  rw [Int.toNat_natCast, h]
  all_goals rfl
theorem places_snoc (xs : List D) (x : D) (n : Str) : places (xs ++ [x]) n = places xs n ++ if nmB n x = true then [(xs.length : Int)] else [] := by
  rw [places_def, places_def, List.length_append, List.length_singleton, rngZ_snoc, List.filter_append]
  congr 1
  · refine List.filter_congr fun i hi => ?_
    have hm := rngZ_mem hi
    obtain ⟨k, rfl⟩ := Int.eq_ofNat_of_zero_le hm.1
    have hk : k < xs.length := by omega
    rw [plB_at (x := xs[k]) (by rw [List.getElem?_append_left hk, List.getElem?_eq_getElem hk]), plB_at (List.getElem?_eq_getElem hk)]
  · have e : plB (xs ++ [x]) n (xs.length : Int) = nmB n x := plB_at (by simp)
    rw [List.filter_cons, e]
    cases nmB n x <;> rfl
theorem places_none {xs : List D} {n : Str} (h : ∀ x ∈ xs, nmB n x = false) : places xs n = [] := by
  have key : ∀ ys : List D, (∀ x ∈ ys, nmB n x = false) → places ys.reverse n = [] := fun ys => by
    induction ys with
    | nil => intro _; rfl
    | cons y ys ih =>
      intro hy
      rw [List.reverse_cons, places_snoc, ih fun x hx => hy x (List.mem_cons_of_mem _ hx), hy y List.mem_cons_self]
      rfl
  have := key xs.reverse fun x hx => h x (List.mem_reverse.mp hx)
  rwa [List.reverse_reverse] at this
theorem places_last {n : Str} {y : D} {ys : List D} (hy : nmB n y = true) : ∀ pre : List D, (∀ x ∈ pre, nmB n x = false) → (places (pre ++ y :: ys).reverse n).getLast? = some (ys.length : Int)
  | [], _ => by
    rw [List.nil_append, List.reverse_cons, places_snoc, hy, if_pos rfl, List.getLast?_append, List.length_reverse]
    rfl
  | x :: pre, h => by
    rw [List.cons_append, List.reverse_cons, places_snoc, h x List.mem_cons_self, if_neg Bool.false_ne_true, List.append_nil]
    exact places_last hy pre fun w hw => h w (List.mem_cons_of_mem _ hw)
/-- the nearest mark -/
theorem near_ok {v : D → Bool} {K N : List Str} (n : Str) {xs : List D} {r : Rp} (h : RL v K N xs r) : match cut n r with
    | none => places xs.reverse n = []
    | some z => ∃ y ys, RM v K N y (n, z.1) ∧ RL v K N ys z.2 ∧ (places xs.reverse n).getLast? = some (ys.length : Int) ∧ xs.reverse.take ys.length = ys.reverse ∧ xs.reverse.take (ys.length + 1) = (y :: ys).reverse ∧ xs.reverse[ys.length]? = some y := by
  have q := cutL n h
  cases e : cut n r with
  | none =>
    rw [e] at q
    exact places_none fun x hx => q x (List.mem_reverse.mp hx)
  | some z =>
    rw [e] at q
    obtain ⟨pre, y, ys, rfl, q1, q2, q3⟩ := q
    have er : (pre ++ y :: ys).reverse = ys.reverse ++ (y :: pre.reverse) := by simp
    refine ⟨y, ys, q1, q2, places_last (by rw [q1.nm]; exact beq_self_eq_true _) pre q3, ?_, ?_, ?_⟩
    · rw [er, List.take_append_of_le_length (by simp)]
      exact List.take_of_length_le (by simp)
    · rw [er, List.reverse_cons, show ys.reverse ++ y :: pre.reverse = (ys.reverse ++ [y]) ++ pre.reverse by simp, List.take_append_of_le_length (by simp)]
      exact List.take_of_length_le (by simp)
    · rw [er, List.getElem?_append_right (by simp)]
      simp
theorem plD_last {xs : List D} {n : Str} {i : Int} (h : (places xs n).getLast? = some i) : plD xs n = .int i := by unfold plD; rw [h]
/-! ### states and commands -/
def RS (K N : List Str) (d : D) (s : Fm × Rp) : Prop := ∃ t xs, RF numB K t s.1 ∧ RL numB K N xs s.2 ∧ d = .tup [t, .tup xs.reverse]
def CdOk (K N : List Str) : Cd → Prop
  | .wr k x => k ∈ K ∧ (x = .non ∨ numB x = true)
  | .mark n => n ∈ N
  | .back n => n ∈ N
  | .keep n => n ∈ N
def cmdD : Cd → D
  | .wr k .non => .tup [.str wDel, .str k]
  | .wr k x => .tup [.str wSet, .str k, x]
  | .mark n => .tup [.str wMark, .str n]
  | .back n => .tup [.str wBack, .str n]
  | .keep n => .tup [.str wKeep, .str n]
theorem Cm.cd {K N : List Str} {row : D} (h : Cm K N row) : ∃ c, CdOk K N c ∧ row = cmdD c := by
  cases h with
  | set hs hx =>
    rename_i s x
    have e := numB_int hx
    refine ⟨.wr s x, ⟨hs, .inr hx⟩, ?_⟩
    rw [e]
    rfl
  | del hs => rename_i s; exact ⟨.wr s .non, ⟨hs, .inl rfl⟩, rfl⟩
  | mark hs => rename_i s; exact ⟨.mark s, hs, rfl⟩
  | back hs => rename_i s; exact ⟨.back s, hs, rfl⟩
  | keep hs => rename_i s; exact ⟨.keep s, hs, rfl⟩
theorem cmdD_wr {K N : List Str} {k : Str} {x : D} (h : CdOk K N (.wr k x)) : (x = .non ∧ cmdD (.wr k x) = .tup [.str wDel, .str k]) ∨ (numB x = true ∧ cmdD (.wr k x) = .tup [.str wSet, .str k, x]) := by
  rcases h.2 with e | e
  · subst e; exact .inl ⟨rfl, rfl⟩
  · refine .inr ⟨e, ?_⟩
    rw [numB_int e]; rfl
theorem RS.not {K N : List Str} {d : D} {s : Fm × Rp} (h : RS K N d s) : isNone d = false := by
  obtain ⟨t, xs, _, _, rfl⟩ := h
  rfl
/-! ### the parts of a plan -/
def RQ (K N : List Str) (d : D) (p : Prt) : Prop := ∃ xs w, RL (vg true) K N xs p.fr ∧ RF (vg true) K w p.wr ∧ (∀ n ∈ p.pat, n ∈ N) ∧ d = .tup [.tup (p.pat.map .str), .int p.src, .tup xs.reverse, w]
theorem unp4_tup (a b c d : D) : unp4 (.tup [a, b, c, d]) = ret (a, b, c, d) := rfl
theorem names_snoc {N : List Str} {pat : List Str} {n : Str} (h : ∀ x ∈ pat, x ∈ N) (hn : n ∈ N) : ∀ x ∈ pat ++ [n], x ∈ N := fun x hx => (List.mem_append.mp hx).elim (h x) fun z => by rw [List.mem_singleton.mp z]; exact hn
theorem ext_fun {K N : List Str} (h : Kn K N) {d : D} {p : Prt} {c : Cd} (hq : RQ K N d p) (hc : CdOk K N c) (hl : p.fr.length ≤ 900) (hl2 : p.pat.length ≤ 900) : ∃ d' : D, d_extended d (cmdD c) = ret d' ∧ RQ K N d' (ext p c) := by
  obtain ⟨xs, w, hx, hw, hp, rfl⟩ := hq
  have len := hx.len
  have lr : xs.reverse.length = xs.length := List.length_reverse
  have hnm := hx.nmd
  have hK := h.kl
  unfold d_extended d_entry_of
  rw [unp4_tup, bnd_ret]
  have addp : ∀ n : Str, addD (.tup (p.pat.map .str)) (.tup [.str n]) = ret (.tup ((p.pat ++ [n]).map .str)) := fun n => by
    rw [tup_add _ _ (by simp; omega), List.map_append]
    rfl
  cases c with
  | wr k x =>
    rcases cmdD_wr hc with ⟨rfl, e⟩ | ⟨hv, e⟩ <;> rw [e]
    · obtain ⟨t, e1, ht⟩ := hw.over hK (RF.one hc.1 (h.kw k hc.1) (x := .non) rfl)
      simp only [is_write_eq, ix0, ix1, bnd_ret, cl_ret, tru_bl, beq_self_eq_true, Bool.or_true, if_true, eqB_str, w_ds, Bool.false_eq_true, if_false, e1]
      exact ⟨_, rfl, xs, t, hx, ht, hp, rfl⟩
    · obtain ⟨t, e1, ht⟩ := hw.over hK (RF.one hc.1 (h.kw k hc.1) (num_vg x hv))
      simp only [is_write_eq, ix0, ix1, ix2, bnd_ret, cl_ret, tru_bl, beq_self_eq_true, Bool.true_or, if_true, eqB_str, e1]
      exact ⟨_, rfl, xs, t, hx, ht, hp, rfl⟩
  | mark n =>
    rw [show cmdD (.mark n) = .tup [.str wMark, .str n] from rfl]
    simp only [is_write_eq, ix0, ix1, bnd_ret, cl_ret, tru_bl, eqB_str, beq_self_eq_true, w_sm, w_dm, Bool.or_false, if_true, Bool.false_eq_true, if_false]
    rw [tup_add xs.reverse [.tup [.str n, w]] (by simp; omega), bnd_ret]
    exact ⟨_, rfl, .tup [.str n, w] :: xs, w, ⟨(n, p.wr), p.fr, rfl, ⟨hc, w, hw, rfl⟩, hx⟩, hw, hp, by simp [ext]⟩
  | back n =>
    rw [show cmdD (.back n) = .tup [.str wBack, .str n] from rfl]
    simp only [is_write_eq, ix0, ix1, bnd_ret, cl_ret, tru_bl, eqB_str, beq_self_eq_true, w_sb, w_db, w_bm, Bool.or_false, if_true, Bool.false_eq_true, if_false]
    rw [nearest_eq hnm (by omega), cl_ret, bnd_ret]
    have q := near_ok n hx
    cases e : cut n p.fr with
    | none =>
      rw [e] at q
      rw [plD_none q, if_pos (show isNone D.non = true from rfl), addp, bnd_ret, lenI_tup, bnd_ret, List.length_map, ext_back0 e]
      refine ⟨_, rfl, [.tup [.str n, .tup []]], .tup [], ⟨(n, nilF), [], rfl, ⟨hc, .tup [], RF.nil, rfl⟩, rfl⟩, RF.nil, names_snoc hp hc, ?_⟩
      rfl
    | some z =>
      rw [e] at q
      obtain ⟨y, ys, q1, q2, q3, q4, q5, q6⟩ := q
      obtain ⟨hn, u, hu, ey⟩ := q1
      rw [plD_last q3, ext_back1 e, if_neg (by show ¬ (false = true); decide), intI_int, bnd_ret, succ_cast, slD_tup, bnd_ret, cut_take, q5, bnd_ret, ix_t (atI_nat q6), bnd_ret, ey, ix1, bnd_ret]
      exact ⟨_, rfl, y :: ys, u, ⟨(n, z.1), z.2, rfl, ⟨hn, u, hu, ey⟩, q2⟩, hu, hp, by rw [ey]⟩
  | keep n =>
    rw [show cmdD (.keep n) = .tup [.str wKeep, .str n] from rfl]
    simp only [is_write_eq, ix0, ix1, bnd_ret, cl_ret, tru_bl, eqB_str, w_sk, w_dk, w_km, w_kb, Bool.or_false, Bool.false_eq_true, if_false]
    rw [nearest_eq hnm (by omega), cl_ret, bnd_ret]
    have q := near_ok n hx
    cases e : cut n p.fr with
    | none =>
      rw [e] at q
      rw [plD_none q, if_pos (show isNone D.non = true from rfl), addp, bnd_ret, ext_keep0 e]
      exact ⟨_, rfl, [], w, rfl, hw, names_snoc hp hc, rfl⟩
    | some z =>
      rw [e] at q
      obtain ⟨y, ys, q1, q2, q3, q4, q5, q6⟩ := q
      rw [plD_last q3, ext_keep1 e, if_neg (by show ¬ (false = true); decide), intI_int, bnd_ret, slD_tup, bnd_ret, cut_take, q4]
      exact ⟨_, rfl, ys, w, q2, hw, hp, rfl⟩
/-! maps grow -/
def Sub (f g : Fm) : Prop := ∀ s, (f s).isSome = true → (g s).isSome = true
def Nst (p : Prt) : Prop := (p.wr :: p.fr.map (·.2)).Pairwise fun a b => Sub b a
theorem cut_suf {n : Str} : ∀ {r : Rp} {z : Fm × Rp}, cut n r = some z → ((n, z.1) :: z.2).Sublist r
  | [], _, h => by cases h
  | m :: r, z, h => by
    unfold cut at h
    by_cases e : m.1 = n
    · rw [if_pos e] at h
      cases h
      subst e
      exact List.Sublist.refl _
    · rw [if_neg e] at h
      exact (cut_suf h).cons _
theorem ext_nst {p : Prt} (h : Nst p) (c : Cd) : Nst (ext p c) := by
  unfold Nst at *
  cases c with
  | wr k x =>
    obtain ⟨h1, h2⟩ := List.pairwise_cons.mp h
    refine List.pairwise_cons.mpr ⟨fun g hg s hs => ?_, h2⟩
    have := h1 g hg s hs
    show ((oneF k x s).or (p.wr s)).isSome = true
    cases oneF k x s with
    | none => exact this
    | some _ => rfl
  | mark n => exact List.pairwise_cons.mpr ⟨fun g hg => by
      rcases List.mem_cons.mp hg with rfl | hg
      · exact fun s hs => hs
      · exact (List.pairwise_cons.mp h).1 g hg, h⟩
  | back n =>
    cases e : cut n p.fr with
    | some z =>
      rw [ext_back1 e]
      have h3 := (List.pairwise_cons.mp h).2.sublist ((cut_suf e).map (·.2))
      exact List.pairwise_cons.mpr ⟨fun g hg => by
        rcases List.mem_cons.mp hg with rfl | hg
        · exact fun s hs => hs
        · exact (List.pairwise_cons.mp h3).1 g hg, h3⟩
    | none =>
      rw [ext_back0 e]
      exact List.pairwise_cons.mpr ⟨fun g hg => by
        rw [List.mem_singleton.mp hg]; exact fun s hs => hs, List.pairwise_singleton _ _⟩
  | keep n =>
    cases e : cut n p.fr with
    | some z =>
      rw [ext_keep1 e]
      exact h.sublist ((List.Sublist.map (·.2) ((List.sublist_cons_self _ _).trans (cut_suf e))).cons₂ _)
    | none =>
      rw [ext_keep0 e]
      exact List.pairwise_singleton _ _
theorem ext_len {p : Prt} (c : Cd) : (ext p c).fr.length ≤ p.fr.length + 1 ∧ (ext p c).pat.length ≤ p.pat.length + 1 := by
  cases c with
  | wr k x => exact ⟨Nat.le_succ _, Nat.le_succ _⟩
  | mark n => exact ⟨Nat.le_refl _, Nat.le_succ _⟩
  | back n =>
    cases e : cut n p.fr with
    | some z => rw [ext_back1 e]; exact ⟨by have := (cut_mem e).2.2; show z.2.length + 1 ≤ _; omega, Nat.le_succ _⟩
    | none => rw [ext_back0 e]; exact ⟨by show 1 ≤ _; omega, by show (p.pat ++ [n]).length ≤ _; simp⟩
  | keep n =>
    cases e : cut n p.fr with
    | some z => rw [ext_keep1 e]; exact ⟨by have := (cut_mem e).2.2; show z.2.length ≤ _; omega, Nat.le_succ _⟩
    | none => rw [ext_keep0 e]; exact ⟨Nat.zero_le _, by show (p.pat ++ [n]).length ≤ _; simp⟩
/-! the parts are right -/
theorem RF.map {K : List Str} (hK : K.length ≤ 8) {t : D} {f : Fm} (h : RF (vg true) K t f) : d_is_map t = ret (.bl true) := by
  obtain ⟨j, d, k, rfl, e⟩ := h
  have l := DI.lenK d k
  rw [is_map_eq (st_sz d (by omega)) (by decide), show pairsB (vg true) (.tup (pairsOf j)) = ascB (vg true) (Str.ofString "") (pairsOf j) from rfl, pairsOf_asc d]
theorem all_true {α : Type} (xs : List α) : allD (.lst (xs.map fun _ => D.bl true)) = ret (.bl true) := by
  rw [all_bls (fun _ => true)]
  congr 2
  exact List.all_eq_true.mpr fun _ _ => rfl
def ML (K : List Str) : List D → List Fm → Prop
  | [], fs => fs = []
  | x :: xs, fs => ∃ f fs', fs = f :: fs' ∧ RF (vg true) K x f ∧ ML K xs fs'
def nbody (p : D × D) (j : Unit) : W (Step Unit D) :=
    bnd (dictW p.2) fun known =>
    bnd (bnd (items p.1) fun xs => bnd (fewN xs.length (quiet (compP (fun x => bnd (unp2 x) fun p1 => bnd (bnd (inW known p1.1) fun k => ret (.bl k)) fun y => ret (some y)) xs))) fun xs1 => bnd (allD (.lst xs1)) fun y => bnd (tru y) fun k1 => ret (!k1)) fun kk => if kk = true then
    ret (.out (.bl false))
    else
    ret (.go ())
theorem nbody_ok {K : List Str} (hK : K.length ≤ 8) {a b : D} {f g : Fm} (ha : RF (vg true) K a f) (hb : RF (vg true) K b g) (hs : Sub f g) : nbody (a, b) () = ret (.go ()) := by
  obtain ⟨j, d, k, rfl, e⟩ := ha
  obtain ⟨j', d', k', rfl, e'⟩ := hb
  have l := DI.lenK d k
  unfold nbody
  have e0 : items (.tup (pairsOf j)) = ret (pairsOf j) := rfl
  rw [dictW_of d', bnd_ret, e0, bnd_ret, fewN_pos (by rw [pairsOf_len]; omega), compP_ret (g := fun _ => some (.bl true)) (fun x hx => by
    obtain ⟨s, hs1, rfl⟩ := List.mem_map.mp hx
    have hk := sortT_mem.mp hs1
    rw [unp2_tup, bnd_ret, inW_str, bnd_ret, sortK_val d' s, e', hs s (by rw [← e]; exact (mem_keysS d s).mp hk)]
    rfl), quiet_ret, bnd_ret]
  have e1 : (pairsOf j).filterMap (fun _ => some (D.bl true)) = (pairsOf j).map fun _ => D.bl true := by
    generalize pairsOf j = l
    induction l with
    | nil => rfl
    | cons x l ih =>
      show D.bl true :: l.filterMap _ = _
      rw [ih]
      rfl
  rw [e1, all_true, bnd_ret, tru_bl, bnd_ret, bnd_ret]
  rfl
theorem nested_run {K : List Str} (hK : K.length ≤ 8) {k : Unit → W D} : ∀ (ms : List D) (fs : List Fm), ML K ms fs → fs.Pairwise Sub → forT nbody k (ms.zip (ms.drop 1)) () = k ()
  | [], _, _, _ => rfl
  | [_], _, _, _ => rfl
  | a :: b :: ms, _, h, hp => by
    obtain ⟨f, fs1, rfl, ha, g, fs2, rfl, hb, h2⟩ := h
    obtain ⟨p1, p2⟩ := List.pairwise_cons.mp hp
    show bnd (nbody (a, b) ()) (forK k fun j => forT nbody k ((b :: ms).zip ((b :: ms).drop 1)) j) = _
    rw [nbody_ok hK ha hb (p1 g List.mem_cons_self)]
    exact nested_run hK (b :: ms) (g :: fs2) ⟨g, fs2, rfl, hb, h2⟩ p2
theorem nested_ok {K : List Str} (hK : K.length ≤ 8) {ms : List D} {fs : List Fm} (h : ML K ms fs) (hp : fs.Pairwise Sub) : d_are_nested (.lst ms) = ret (.bl true) := by
  unfold d_are_nested
  have e : slD (.lst ms) (some 1) none = ret (.lst (ms.drop 1)) := by
    show ret (D.lst (cutD ms (some ((1 : Nat) : Int)) none)) = _
    rw [cut_drop]
  rw [e, bnd_ret, show zipD (.lst ms) (.lst (ms.drop 1)) = ret (ms.zip (ms.drop 1)) from rfl, bnd_ret]
  exact nested_run hK ms fs h hp
def mpD : D → D
  | .tup [_, t] => t
  | _ => .non
theorem RL.maps {K N : List Str} {w : D} {g : Fm} (hw : RF (vg true) K w g) : ∀ {xs : List D} {r : Rp}, RL (vg true) K N xs r → ML K (xs.map mpD ++ [w]) (r.map (·.2) ++ [g])
  | [], r, h => by
    have h : r = [] := h
    rw [h]
    exact ⟨g, [], rfl, hw, rfl⟩
  | x :: xs, _, h => by
    obtain ⟨m, r', rfl, ⟨_, t, ht, rfl⟩, h⟩ := h
    exact ⟨m.2, _, rfl, ht, RL.maps hw h⟩
theorem RL.rev {v : D → Bool} {K N : List Str} : ∀ {xs : List D} {r : Rp}, RL v K N xs r → RL v K N xs.reverse r.reverse
  | [], r, h => by
    have h : r = [] := h
    rw [h]; rfl
  | x :: xs, _, h => by
    obtain ⟨m, r', rfl, hm, h⟩ := h
    rw [List.reverse_cons, List.reverse_cons]
    exact RL.app (RL.rev h) ⟨m, [], rfl, hm, rfl⟩
theorem parts_ok {K N : List Str} (h : Kn K N) {xs : List D} {w : D} {p : Prt} (hx : RL (vg true) K N xs p.fr) (hw : RF (vg true) K w p.wr) (hp : ∀ n ∈ p.pat, n ∈ N) (hs : p.src ≤ p.pat.length) (hn : Nst p) (hl : p.fr.length ≤ 900) (hl2 : p.pat.length ≤ 900) :
    d_are_parts (.tup (p.pat.map .str)) (.int p.src) (.tup xs.reverse) w = ret (.bl true) := by
  have len := hx.len
  have hK := h.kl
  unfold d_are_parts
  have i1 : ∀ ys : List D, items (.tup ys) = ret ys := fun _ => rfl
  have e1 : mapP (fun name => cl (d_is_word name)) (p.pat.map D.str) = ret ((p.pat.map D.str).map fun _ => D.bl true) := mapP_ret (by rw [List.length_map]; omega) fun x hx => by
    obtain ⟨n, hn, rfl⟩ := List.mem_map.mp hx
    rw [is_word_eq, h.nw n (hp n hn), cl_ret]
  have e2 : mapP (fun frame => cl (d_is_frame frame)) xs.reverse = ret (xs.reverse.map fun _ => D.bl true) := mapP_ret (by simp; omega) fun x hx' => by
    obtain ⟨m, _, hm, t, ht, rfl⟩ := hx.allX x (List.mem_reverse.mp hx')
    unfold d_is_frame
    rw [show isT .tup (.tup [.str m.1, t]) = true from rfl, andD_t, lenI_tup, bnd_ret, show decide ((([D.str m.1, t] : List D).length : Int) = 2) = true from rfl, andD_t, ix0, bnd_ret, is_word_eq, h.nw _ hm, cl_ret, andD_t, ix1, bnd_ret, ht.map hK, cl_ret, cl_ret]
  have e3 : mapP (fun frame1 => ixD frame1 (.int 1)) xs.reverse = ret (xs.reverse.map mpD) := mapP_ret (by simp; omega) fun x hx' => by
    obtain ⟨m, _, hm, t, ht, rfl⟩ := hx.allX x (List.mem_reverse.mp hx')
    rw [ix1]; rfl
  have e4 : d_is_between (.int p.src) (.int 0) (.int p.pat.length) = ret (.bl true) := by
    unfold d_is_between
    rw [is_integer_eq, cl_ret, andD_t]
    simp only [leD_int, thenB_bl]
    rw [show decide ((0 : Int) ≤ (p.src : Int)) = true by simp, show decide ((p.src : Int) ≤ (p.pat.length : Int)) = true by simp; omega]
    rfl
  have e5 : ML K (xs.reverse.map mpD ++ [w]) (p.fr.reverse.map (·.2) ++ [p.wr]) := RL.maps hw hx.rev
  have e6 : (p.fr.reverse.map (·.2) ++ [p.wr]).Pairwise Sub := by
    have : (p.fr.reverse.map (·.2) ++ [p.wr]) = (p.wr :: p.fr.map (·.2)).reverse := by simp
    rw [this, List.pairwise_reverse]
    exact hn
  rw [show isT .tup (.tup (p.pat.map .str)) = true from rfl, Bool.not_true, i1, bnd_ret, e1, bnd_ret, all_true, bnd_ret, tru_bl, bnd_ret, Bool.not_true, orB_ret, Bool.or_false, bnd_ret, if_neg Bool.false_ne_true,
    lenI_tup, bnd_ret, List.length_map, e4, cl_ret, bnd_ret, tru_bl, bnd_ret, show isT .tup (.tup xs.reverse) = true from rfl, hw.map hK, cl_ret, bnd_ret, tru_bl, bnd_ret, Bool.not_true, orB_ret, Bool.or_false, orB_ret, Bool.or_false, bnd_ret, if_neg Bool.false_ne_true,
    i1, bnd_ret, e2, bnd_ret, all_true, andD_t, bnd_ret, e3, bnd_ret]
  have e7 : addL (xs.reverse.map mpD) [w] = ret (xs.reverse.map mpD ++ [w]) := grd_pos (by rw [sizeLine_eq]; simp; omega) _
  rw [e7, bnd_ret, nested_ok hK e5 e6, cl_ret]
def plD' (d : D) : D := .ins (Str.ofString "Plan") (Str.ofString "own_parts") d
theorem init_ok {K N : List Str} (h : Kn K N) {xs : List D} {w : D} {p : Prt} (hx : RL (vg true) K N xs p.fr) (hw : RF (vg true) K w p.wr) (hp : ∀ n ∈ p.pat, n ∈ N) (hs : p.src ≤ p.pat.length) (hn : Nst p) (hl : p.fr.length ≤ 900) (hl2 : p.pat.length ≤ 900) :
    d_Plan_init (.tup (p.pat.map .str)) (.int p.src) (.tup xs.reverse) w = ret (.tup [.tup (p.pat.map .str), .int p.src, .tup xs.reverse, w]) := by
  unfold d_Plan_init
  rw [parts_ok h hx hw hp hs hn hl hl2, cl_ret, bnd_ret, tru_bl, bnd_ret, bnd_ret, Bool.not_true, if_neg Bool.false_ne_true, bnd_ret]
theorem of_run {K N : List Str} (h : Kn K N) {k : D → W D} : ∀ (cs : List Cd) (p : Prt) (d : D), RQ K N d p → (∀ c ∈ cs, CdOk K N c) → p.fr.length + cs.length ≤ 900 → p.pat.length + cs.length ≤ 900 → ∃ d' : D, forT (fun command j =>
    bnd (cl (d_extended j command)) fun parts =>
    ret (.go parts)) k (cs.map cmdD) d = k d' ∧ RQ K N d' (cs.foldl ext p)
  | [], p, d, hq, _, _, _ => ⟨d, rfl, hq⟩
  | c :: cs, p, d, hq, hc, hl, hl2 => by
    simp only [List.length_cons] at hl hl2
    obtain ⟨d1, e1, hq1⟩ := ext_fun h hq (hc c List.mem_cons_self) (by omega) (by omega)
    have l := ext_len (p := p) c
    obtain ⟨d2, e2, hq2⟩ := of_run h (k := k) cs (ext p c) d1 hq1 (fun x hx => hc x (List.mem_cons_of_mem _ hx)) (by omega) (by omega)
    refine ⟨d2, ?_, hq2⟩
    show bnd (bnd (cl (d_extended d (cmdD c))) _) _ = _
    rw [e1, cl_ret, bnd_ret]
    exact e2
theorem fold_nst : ∀ (cs : List Cd) (p : Prt), Nst p → p.src ≤ p.pat.length → Nst (cs.foldl ext p) ∧ (cs.foldl ext p).src ≤ (cs.foldl ext p).pat.length ∧ (cs.foldl ext p).fr.length ≤ p.fr.length + cs.length ∧ (cs.foldl ext p).pat.length ≤ p.pat.length + cs.length
  | [], p, h, hs => ⟨h, hs, Nat.le_refl _, Nat.le_refl _⟩
  | c :: cs, p, h, hs => by
    obtain ⟨h1, h2, h3, h4⟩ := fold_nst cs (ext p c) (ext_nst h c) (ext_src hs c)
    have l := ext_len (p := p) c
    simp only [List.length_cons, List.foldl_cons]
    exact ⟨h1, h2, by omega, by omega⟩
theorem ix3 (a b c x : D) (xs : List D) : ixD (.tup (a :: b :: c :: x :: xs)) (.int 3) = ret x := ix_t (atI_nat (j := 3) rfl)
theorem emp_nst : Nst emp := List.pairwise_singleton _ _
theorem Cd.cm {K N : List Str} {c : Cd} (h : CdOk K N c) : Cm K N (cmdD c) := by
  cases c with
  | wr k x =>
    rcases cmdD_wr h with ⟨rfl, e⟩ | ⟨hv, e⟩ <;> rw [e]
    · exact .del h.1
    · exact .set h.1 hv
  | mark n => exact .mark h
  | back n => exact .back h
  | keep n => exact .keep h
/-- Plan.of(script) -/
theorem of_ok {K N : List Str} (h : Kn K N) {cs : List Cd} (hc : ∀ c ∈ cs, CdOk K N c) (hl : cs.length ≤ 60) {d0 : D} (hd : d0 = .lst (cs.map cmdD) ∨ d0 = .tup (cs.map cmdD)) : ∃ q : D, d_Plan_of d0 = ret (plD' q) ∧ RQ K N q (cs.foldl ext emp) := by
  have hcm : ∀ r ∈ cs.map cmdD, d_is_command r = ret (.bl true) := fun r hr => by
    obtain ⟨c, hc', rfl⟩ := List.mem_map.mp hr
    exact is_command_ok h (Cd.cm (hc c hc'))
  have h0 : RQ K N (.tup [.tup [], .int 0, .tup [], .tup []]) emp := ⟨[], .tup [], rfl, RF.nil, fun n hn => (nomatch hn), rfl⟩
  obtain ⟨f1, f2, f3, f4⟩ := fold_nst cs emp emp_nst (Nat.le_refl 0)
  have f3 : (cs.foldl ext emp).fr.length ≤ 0 + cs.length := f3
  have f4 : (cs.foldl ext emp).pat.length ≤ 0 + cs.length := f4
  obtain ⟨d', e, hq⟩ := of_run h (k := fun j1 => bnd (ixD j1 (.int 0)) fun y2 => bnd (ixD j1 (.int 1)) fun y3 => bnd (ixD j1 (.int 2)) fun y4 => bnd (ixD j1 (.int 3)) fun y5 => bnd (cl (d_Plan_init y2 y3 y4 y5)) fun d => ret (.ins (Str.ofString "Plan") (Str.ofString "own_parts") d)) cs emp _ h0 hc (by show 0 + _ ≤ _; omega) (by show 0 + _ ≤ _; omega)
  refine ⟨d', ?_, hq⟩
  unfold d_Plan_of
  rw [need_ok hd (by rw [List.length_map]; exact hl) hcm, cl_ret, bnd_ret, show items d0 = ret (cs.map cmdD) by rcases hd with rfl | rfl <;> rfl, bnd_ret]
  refine Eq.trans e ?_
  obtain ⟨xs, w, hx, hw, hp, rfl⟩ := hq
  rw [ix0, bnd_ret, ix1, bnd_ret, ix2, bnd_ret, ix3, bnd_ret, init_ok h hx hw hp f2 f1 (by omega) (by omega), cl_ret, bnd_ret]
  rfl
/-! ### a plan is called -/
theorem fld_own (d : D) : fldD (Str.ofString "own_parts") (plD' d) = ret d := by
  show (if Str.ofString "own_parts" = Str.ofString "own_parts" then ret d else stuck : W D) = ret d
  exact if_pos rfl
theorem ins_own (d : D) (m : W D) : insIs (Str.ofString "Plan") (Str.ofString "own_parts") (plD' d) m = m := by
  show (if Str.ofString "Plan" = Str.ofString "Plan" ∧ Str.ofString "own_parts" = Str.ofString "own_parts" then m else stuck : W D) = m
  exact if_pos ⟨rfl, rfl⟩
theorem RL.at : ∀ {v : D → Bool} {K N : List Str} {xs : List D} {r : Rp} {i : Nat} {m : Str × Fm}, RL v K N xs r → r[i]? = some m → ∃ x, xs[i]? = some x ∧ RM v K N x m
  | _, _, _, [], r, i, m, h, e => by
    have h : r = [] := h
    rw [h] at e; simp at e
  | _, _, _, x :: xs, _, 0, m, h, e => by
    obtain ⟨m', r', rfl, hm, h⟩ := h
    cases e
    exact ⟨x, rfl, hm⟩
  | _, _, _, x :: xs, _, i + 1, m, h, e => by
    obtain ⟨m', r', rfl, hm, h⟩ := h
    exact RL.at (i := i) h e
theorem RL.drop {v : D → Bool} {K N : List Str} : ∀ (n : Nat) {xs : List D} {r : Rp}, RL v K N xs r → RL v K N (xs.drop n) (r.drop n)
  | 0, _, _, h => h
  | n + 1, [], r, h => by
    have h : r = [] := h
    rw [h]; rfl
  | n + 1, x :: xs, _, h => by
    obtain ⟨m', r', rfl, hm, h⟩ := h
    exact RL.drop n h
end Q24

namespace Q24
open PySem PySem.Spec L2 PL
/-! ### the shortest scripts of plans -/
abbrev Js := List (Key × D)
section
variable {a b : Js}
end
/-! the searches -/
/-! ### what is started, one more keep, the frames -/
section
variable {pat : List Str} {src : Nat} {frs : List D}
end
abbrev Fr := Str × Js
def frD (m : Fr) : D := .tup [.str m.1, .tup (pairsOf m.2)]
/-- a map of a plan -/
def GJ (K : List Str) (j : Js) : Prop := DI (vg true) j ∧ ∀ s ∈ keysS j, s ∈ K
theorem GJ.len {K : List Str} {j : Js} (h : GJ K j) : j.length ≤ K.length := DI.lenK h.1 h.2
theorem GJ.nil {K : List Str} : GJ K [] := ⟨DI.nil, fun s hs => (nomatch hs)⟩
def GF (K N : List Str) (fs : List Fr) : Prop := ∀ m ∈ fs, m.1 ∈ N ∧ GJ K m.2
theorem GF.tail {K N : List Str} {m : Fr} {fs : List Fr} (h : GF K N (m :: fs)) : GF K N fs := fun x hx => h x (List.mem_cons_of_mem _ hx)
theorem GF.gd {K N : List Str} (hw : ∀ n ∈ N, wordB (.str n) = true) {fs : List Fr} (h : GF K N fs) : ∀ x ∈ fs.map frD, Gd 3 x := fun x hx => by
  obtain ⟨m, hm, rfl⟩ := List.mem_map.mp hx
  refine Gd.tup fun y hy => ?_
  rcases List.mem_cons.mp hy with rfl | hy
  · exact Gd.str (word_ok (hw _ (h m hm).1))
  · rw [List.mem_singleton.mp hy]
    exact pairsOf_gd (h m hm).2.1
/-! ### both ask for the same -/
/-- the parts of a plan -/
structure GP (K N : List Str) (pat : List Str) (src : Nat) (fs : List Fr) (w : Js) : Prop where
  kn : Kn K N
  pn : ∀ n ∈ pat, n ∈ N
  sl : src ≤ pat.length
  gf : GF K N fs
  gw : GJ K w
  pl : pat.length ≤ 400
  fl : fs.length ≤ 400
theorem GP.kl {K N : List Str} {pat : List Str} {src : Nat} {fs : List Fr} {w : Js} (h : GP K N pat src fs w) : K.length ≤ 8 := h.kn.kl
theorem GP.nw {K N : List Str} {pat : List Str} {src : Nat} {fs : List Fr} {w : Js} (h : GP K N pat src fs w) : ∀ n ∈ N, wordB (.str n) = true := h.kn.nw
def prD (pat : List Str) (src : Nat) (fs : List Fr) (w : Js) : D := .tup [.tup (pat.map .str), .int src, .tup (fs.map frD), .tup (pairsOf w)]
theorem sortT_nil : sortT [] = [] := by simp [sortT]
theorem pairsOf_e : pairsOf [] = [] := by simp [pairsOf, keysS, sortT_nil]
theorem sortK_e : sortK [] = [] := by simp [sortK, keysS, sortT_nil, KF]
section
variable {K N pat : List Str} {src : Nat} {fs : List Fr} {w : Js}
theorem pt_eq (a b c d : D) : quiet (cl (d_Plan_pattern (plD' (.tup [a, b, c, d])))) = ret a ∧ quiet (cl (d_Plan_source (plD' (.tup [a, b, c, d])))) = ret b ∧ quiet (cl (d_Plan_frames (plD' (.tup [a, b, c, d])))) = ret c ∧ quiet (cl (d_Plan_writes (plD' (.tup [a, b, c, d])))) = ret d := by
  unfold d_Plan_pattern d_Plan_source d_Plan_frames d_Plan_writes
  refine ⟨?_, ?_, ?_, ?_⟩ <;> rw [fld_own, bnd_ret] <;> rfl
end
/-! ### what is asked of a plan -/
section
variable {K N pat : List Str} {src : Nat} {fs : List Fr} {w : Js}
end
/-! ### parts drawn -/
def SubJ (a b : Js) : Prop := ∀ s ∈ keysS a, s ∈ keysS b
theorem put_keys {j : Js} (h : DI (vg true) j) {s : Str} {x : D} (hs : wordB (.str s) = true) (hx : vg true x = true) (t : Str) : t ∈ keysS (putD j (.inr s) x) ↔ t = s ∨ t ∈ keysS j := by
  rw [mem_keysS (h.put hs hx), mem_keysS h, valD_put]
  by_cases e : t = s
  · subst e
    rw [if_pos rfl]
    exact ⟨fun _ => .inl rfl, fun _ => rfl⟩
  · rw [if_neg fun z : (Sum.inr t : Key) = .inr s => e (Sum.inr.inj z)]
    exact ⟨.inr, fun z => z.resolve_left e⟩
theorem GJ.put {K : List Str} (hw : ∀ s ∈ K, wordB (.str s) = true) {j : Js} (h : GJ K j) {s : Str} {x : D} (hs : s ∈ K) (hx : vg true x = true) : GJ K (putD j (.inr s) x) ∧ SubJ j (putD j (.inr s) x) :=
  ⟨⟨h.1.put (hw s hs) hx, fun t ht => ((put_keys h.1 (hw s hs) hx t).mp ht).elim (fun e => e ▸ hs) (h.2 t)⟩, fun t ht => (put_keys h.1 (hw s hs) hx t).mpr (.inr ht)⟩
theorem SubJ.refl (a : Js) : SubJ a a := fun _ h => h
theorem SubJ.trans {a b c : Js} (h : SubJ a b) (g : SubJ b c) : SubJ a c := fun s hs => g s (h s hs)
/-- maps grow -/
def Up (fs : List Fr) (w : Js) : Prop := (fs.map (·.2) ++ [w]).Pairwise SubJ
theorem Up.snoc {fs : List Fr} {w w' : Js} (h : Up fs w) (hs : SubJ w w') (n : Str) : Up (fs ++ [(n, w')]) w' ∧ Up fs w' := by
  have h2 : Up fs w' := by
    unfold Up at *
    rw [List.pairwise_append] at *
    refine ⟨h.1, List.pairwise_singleton _ _, fun a ha b hb => ?_⟩
    rw [List.mem_singleton.mp hb]
    exact SubJ.trans (h.2.2 a ha w (List.mem_singleton.mpr rfl)) hs
  refine ⟨?_, h2⟩
  unfold Up at *
  rw [List.map_append, List.map_cons, List.map_nil, List.pairwise_append]
  refine ⟨h2, List.pairwise_singleton _ _, fun a ha b hb => ?_⟩
  rw [List.mem_singleton.mp hb]
  rcases List.mem_append.mp ha with ha | ha
  · exact (List.pairwise_append.mp h2).2.2 a ha w' (List.mem_singleton.mpr rfl)
  · rw [List.mem_singleton.mp ha]; exact SubJ.refl _
theorem Up.cons {fs : List Fr} {w : Js} (h : Up fs w) (n : Str) : Up ((n, []) :: fs) w := by
  unfold Up at *
  rw [List.map_cons, List.cons_append]
  exact List.pairwise_cons.mpr ⟨fun b _ s hs => (nomatch hs), h⟩
theorem Up.up {fs : List Fr} {w w' : Js} (h : Up fs w) (hs : SubJ w w') : Up fs w' := (h.snoc hs (Str.ofString "")).2
end Q24

namespace Q24
open PySem PySem.Spec L2 PL
/-! ### plans made -/
def toF (j : Js) : Fm := fun s => valD j (.inr s)
def frM (m : Fr) : Str × Fm := (m.1, toF m.2)
theorem GJ.rf {K : List Str} {j : Js} (h : GJ K j) : RF (vg true) K (.tup (pairsOf j)) (toF j) := ⟨j, h.1, h.2, rfl, fun _ => rfl⟩
theorem RL_of {K N : List Str} : ∀ {fs : List Fr}, GF K N fs → RL (vg true) K N (fs.map frD) (fs.map frM)
  | [], _ => rfl
  | m :: fs, h => ⟨frM m, fs.map frM, rfl, ⟨(h m List.mem_cons_self).1, _, (h m List.mem_cons_self).2.rf, rfl⟩, RL_of h.tail⟩
theorem SubJ.sub {a b : Js} {K : List Str} (ha : GJ K a) (hb : GJ K b) (h : SubJ a b) : Sub (toF a) (toF b) := fun s hs => (mem_keysS hb.1 s).mp (h s ((mem_keysS ha.1 s).mpr hs))
theorem Up.nst {K N pat : List Str} {src : Nat} {fs : List Fr} {w : Js} (h : GP K N pat src fs w) (hu : Up fs w) : Nst ⟨pat, src, (fs.map frM).reverse, toF w⟩ := by
  unfold Nst
  show (toF w :: ((fs.map frM).reverse).map (·.2)).Pairwise _
  have e : toF w :: ((fs.map frM).reverse).map (·.2) = ((fs.map (·.2) ++ [w]).map toF).reverse := by
    rw [List.map_append, List.reverse_append, ← List.map_reverse, ← List.map_reverse, List.map_map, List.map_reverse, List.map_map]
    rfl
  rw [e, List.pairwise_reverse, List.pairwise_map]
  refine List.Pairwise.imp_of_mem (fun {a b} ha hb q => ?_) hu
  have gd : ∀ x ∈ fs.map (·.2) ++ [w], GJ K x := fun x hx => by
    rcases List.mem_append.mp hx with hx | hx
    · obtain ⟨m, hm, rfl⟩ := List.mem_map.mp hx
      exact (h.gf m hm).2
    · rw [List.mem_singleton.mp hx]; exact h.gw
  exact SubJ.sub (gd a ha) (gd b hb) q
theorem init_eq {K N pat : List Str} {src : Nat} {fs : List Fr} {w : Js} (h : GP K N pat src fs w) (hu : Up fs w) : d_Plan_init (.tup (pat.map .str)) (.int src) (.tup (fs.map frD)) (.tup (pairsOf w)) = ret (prD pat src fs w) := by
  have hl := h.pl
  have hf := h.fl
  have := init_ok h.kn (xs := (fs.map frD).reverse) (w := .tup (pairsOf w)) (p := ⟨pat, src, (fs.map frM).reverse, toF w⟩) (RL_of h.gf).rev h.gw.rf h.pn h.sl (hu.nst h) (by show ((fs.map frM).reverse).length ≤ 900; simp; omega) (by show pat.length ≤ 900; omega)
  rw [List.reverse_reverse] at this
  exact this
theorem deed_gen {K N : List Str} (h : Kn K N) : Gen (d_l_deed (.lst (N.map .str)) (.lst (K.map .str))) 5 (Cm K N) := by
  unfold d_l_deed
  refine (Gen.dr (c := 4) (by decide) (by decide) fun way q0 q1 => ?_).up (by decide)
  refine (Gen.bind (c := 1) (d := 3) (pickS h.n0 (by have := h.nl; omega : N.length < 1000)) fun y ⟨n, hn, e⟩ => ?_).up (by decide)
  subst e
  refine (Gen.bind (c := 1) (d := 2) (pickS h.k0 (by have := h.kl; omega : K.length < 1000)) fun y ⟨s, hs, e⟩ => ?_).up (by decide)
  subst e
  refine (Gen.cond (c := 2) (d := 0) (fun _ => ?_) fun hw => ?_).up (by decide)
  · refine (Gen.bind (c := 2) (d := 0) number_gen fun y hy => ?_).up (by decide)
    exact Gen.ret (.set hs hy)
  · refine (Gen.cond (c := 0) (d := 0) (fun _ => Gen.ret (.del hs)) fun hw2 => ?_).up (by decide)
    have hw := of_decide_eq_false hw
    have hw2 := of_decide_eq_false hw2
    refine Gen.pickL (by omega) (by simp; omega) fun y hy => ?_
    simp only [List.mem_cons, List.not_mem_nil, or_false] at hy
    rcases hy with rfl | rfl | rfl | rfl | rfl | rfl | rfl
    · exact Gen.ret (.mark hn)
    · exact Gen.ret (.mark hn)
    · exact Gen.ret (.mark hn)
    · exact Gen.ret (.back hn)
    · exact Gen.ret (.back hn)
    · exact Gen.ret (.keep hn)
    · exact Gen.ret (.keep hn)
theorem cds_of {K N : List Str} : ∀ {xs : List D}, (∀ x ∈ xs, Cm K N x) → ∃ cs : List Cd, xs = cs.map cmdD ∧ ∀ c ∈ cs, CdOk K N c
  | [], _ => ⟨[], rfl, fun _ h => nomatch h⟩
  | x :: xs, h => by
    obtain ⟨c, hc, e⟩ := (h x List.mem_cons_self).cd
    obtain ⟨cs, e2, h2⟩ := cds_of fun y hy => h y (List.mem_cons_of_mem _ hy)
    exact ⟨c :: cs, by rw [e, e2]; rfl, fun d hd => (List.mem_cons.mp hd).elim (fun z => z ▸ hc) (h2 d)⟩
/-! ### the great plan, the empty one -/
abbrev sa : Str := Str.ofString "a"
abbrev sb : Str := Str.ofString "b"
abbrev sx : Str := Str.ofString "x"
abbrev sy : Str := Str.ofString "y"
theorem knG : Kn [sx, sy] [sa, sb] := ⟨by decide +kernel, by decide +kernel, by decide +kernel, by decide, by decide, by decide, by decide⟩
def x1 : Js := [(.inr sx, .int 1)]
theorem repT {xs : List D} {n : Nat} (h0 : xs ≠ []) (h1 : xs.length ≤ 1000) (h : 2 ≤ n) (h2 : n ≤ 1000) : repD (.tup xs) (.int (n : Int)) = ret (.tup (List.replicate n xs).flatten) := grd_pos ⟨h0, by omega, by omega, h1⟩ _
theorem gp0 : GP [sx, sy] [sa, sb] [] 0 [] [] := ⟨knG, fun _ hn => (nomatch hn), Nat.le_refl 0, fun _ hm => (nomatch hm), GJ.nil, by decide, by decide⟩
theorem init0 : d_Plan_init (.tup []) (.int 0) (.tup []) (.tup []) = ret (prD [] 0 [] []) := by
  have := init_eq gp0 (show Up [] [] from List.pairwise_singleton _ _)
  rw [pairsOf_e] at this
  exact this
end Q24

namespace Q24
open PySem PySem.Spec L2 PL
/-! ### patterns matched in names, from the top -/
def natD (k : Nat) : D := .int (k : Int)
def gr : List Str → List Str → Nat → List Nat
  | [], _, _ => []
  | _ :: _, [], _ => []
  | p :: ps, n :: ns, i => if n = p then i :: gr ps ns (i + 1) else gr (p :: ps) ns (i + 1)
theorem gr_cons (p : Str) (ps : List Str) (n : Str) (ns : List Str) (i : Nat) : gr (p :: ps) (n :: ns) i = if n = p then i :: gr ps ns (i + 1) else gr (p :: ps) ns (i + 1) := by rw [gr]
theorem gr_nil (ns : List Str) (i : Nat) : gr [] ns i = [] := by cases ns <;> rfl
theorem gr_len : ∀ (ps ns : List Str) (i : Nat), (gr ps ns i).length ≤ ps.length
  | [], ns, i => by rw [gr_nil]; exact Nat.le_refl _
  | _ :: _, [], i => Nat.zero_le _
  | p :: ps, n :: ns, i => by
    rw [gr_cons]
    split
    · have := gr_len ps ns (i + 1)
      simp only [List.length_cons]; omega
    · exact gr_len (p :: ps) ns (i + 1)
theorem gr_bd : ∀ (ps ns : List Str) (i : Nat), ∀ k ∈ gr ps ns i, i ≤ k ∧ k < i + ns.length
  | [], ns, i, k, h => by rw [gr_nil] at h; cases h
  | _ :: _, [], i, k, h => nomatch h
  | p :: ps, n :: ns, i, k, h => by
    rw [gr_cons] at h
    split at h
    · rcases List.mem_cons.mp h with rfl | h
      · rw [List.length_cons]; omega
      · have := gr_bd ps ns (i + 1) k h
        rw [List.length_cons]; omega
    · have := gr_bd (p :: ps) ns (i + 1) k h
      rw [List.length_cons]; omega
theorem gr_asc : ∀ (ps ns : List Str) (i : Nat), (gr ps ns i).Pairwise (· < ·)
  | [], ns, i => by rw [gr_nil]; exact List.Pairwise.nil
  | _ :: _, [], i => List.Pairwise.nil
  | p :: ps, n :: ns, i => by
    rw [gr_cons]
    split
    · refine List.pairwise_cons.mpr ⟨fun k hk => ?_, gr_asc ps ns (i + 1)⟩
      have := gr_bd ps ns (i + 1) k hk
      omega
    · exact gr_asc (p :: ps) ns (i + 1)
/-- where a name stands -/
def fl (p : Str) : List Str → Nat → List Nat
  | [], _ => []
  | n :: ns, i => if n = p then i :: fl p ns (i + 1) else fl p ns (i + 1)
def plS (pat : D) (p : Int × D) (j : List D) : W (Step (List D) D) :=
    bnd (bnd (lenI pat) fun n => ret (decide ((j.length : Int) = n))) fun kk => if kk = true then
    ret (.out (.lst j))
    else
    bnd (bnd (ixD pat (.int (j.length : Int))) fun y => eqB p.2 y) fun kk => if kk = true then
    roomL j (
    ret (.go (j ++ [(.int p.1)])))
    else
    ret (.go j)
theorem plS_eq {pat : List Str} (hp : pat.length ≤ 1000) (n : Str) (i : Nat) (acc : List Nat) (hl : acc.length ≤ pat.length) : plS (.tup (pat.map .str)) ((i : Int), .str n) (acc.map natD) = match pat.drop acc.length with
    | [] => ret (.out (.lst (acc.map natD)))
    | p :: _ => if n = p then ret (.go ((acc ++ [i]).map natD)) else ret (.go (acc.map natD)) := by
  unfold plS
  rw [lenI_tup, bnd_ret, bnd_ret, List.length_map, List.length_map]
  by_cases e : acc.length = pat.length
  · rw [decide_eq_true (by omega : (acc.length : Int) = (pat.length : Int)), if_pos rfl, e, List.drop_length]
  · rw [decide_eq_false (by omega : ¬ (acc.length : Int) = (pat.length : Int)), if_neg (by decide)]
    have hlt : acc.length < pat.length := by omega
    have hd : pat.drop acc.length = pat[acc.length] :: pat.drop (acc.length + 1) := List.drop_eq_getElem_cons hlt
    rw [ix_t (x := .str pat[acc.length]) (atI_nat (by rw [List.getElem?_map, List.getElem?_eq_getElem hlt]; rfl)), bnd_ret, hd]
    show bnd (eqB (.str n) (.str pat[acc.length])) _ = (if n = pat[acc.length] then _ else _ : W (Step (List D) D))
    rw [eqB_str, bnd_ret]
    by_cases q : n = pat[acc.length]
    · rw [if_pos q, show (n == pat[acc.length]) = true from beq_iff_eq.mpr q, if_pos rfl, room_pos (by rw [List.length_map]; omega), List.map_append]
      rfl
    · rw [if_neg q, show (n == pat[acc.length]) = false from beq_false_of_ne q, if_neg (by decide)]
theorem pl_run {pat : List Str} (hp : pat.length ≤ 1000) : ∀ (ns : List Str) (i : Nat) (acc : List Nat), acc.length ≤ pat.length → forT (plS (.tup (pat.map .str))) (fun j1 => ret (.lst j1)) (enumZ i (ns.map .str)) (acc.map natD) = ret (D.lst ((acc ++ gr (pat.drop acc.length) ns i).map natD))
  | [], i, acc, _ => by
    show (ret (D.lst (acc.map natD)) : W D) = _
    have : gr (pat.drop acc.length) [] i = [] := by cases pat.drop acc.length <;> rfl
    rw [this, List.append_nil]
  | n :: ns, i, acc, hl => by
    show bnd (plS (.tup (pat.map .str)) ((i : Int), .str n) (acc.map natD)) (forK (fun j1 => ret (.lst j1)) fun j => forT (plS (.tup (pat.map .str))) (fun j1 => ret (.lst j1)) (enumZ (i + 1) (ns.map .str)) j) = _
    rw [plS_eq hp n i acc hl]
    cases e : pat.drop acc.length with
    | nil =>
      show bnd (ret (PL.Step.out (D.lst (acc.map natD)))) _ = _
      rw [bnd_ret, gr_nil, List.append_nil]
      rfl
    | cons p ps =>
      have hlt : acc.length < pat.length := by
        have := congrArg List.length e
        rw [List.length_drop, List.length_cons] at this
        omega
      show bnd (if n = p then _ else _) _ = _
      rw [gr_cons]
      by_cases q : n = p
      · rw [if_pos q, if_pos q, bnd_ret]
        show forT (plS (.tup (pat.map .str))) (fun j1 => ret (.lst j1)) (enumZ (i + 1) (ns.map .str)) ((acc ++ [i]).map natD) = _
        have ed : pat.drop (acc ++ [i]).length = ps := by rw [List.length_append, List.length_singleton, ← List.tail_drop, e]; rfl
        rw [pl_run hp ns (i + 1) (acc ++ [i]) (by rw [List.length_append]; exact hlt), ed, List.append_assoc]
        rfl
      · rw [if_neg q, if_neg q, bnd_ret, ← e]
        exact pl_run hp ns (i + 1) acc hl
theorem places_in_eq {pat ns : List Str} (hp : pat.length ≤ 1000) : d_places_in (.tup (pat.map .str)) (.lst (ns.map .str)) = ret (.lst ((gr pat ns 0).map natD)) := by
  unfold d_places_in
  rw [show enumI (.lst (ns.map D.str)) = ret (enumZ 0 (ns.map D.str)) from rfl, bnd_ret]
  exact pl_run hp ns 0 [] (Nat.zero_le _)
/-! the law's own -/
/-! ### one map over another -/
end Q24

namespace Q24
open PySem PySem.Spec L2 PL
/-! ### maps over maps, sorted -/
def mg (a b : Js) : Js := sortK (mergeD a b)
theorem sortK_pairs {v : D → Bool} {j : Js} (h : DI v j) : pairsOf (sortK j) = pairsOf j := pairsOf_congr (sortK_DI h) h fun s => sortK_val h s
theorem sortK_same {a b : Js} (h : pairsOf a = pairsOf b) : sortK a = sortK b := by
  have e1 : pairsL (pairsOf a) = some (sortK a) := pairsL_PF _ _
  have e2 : pairsL (pairsOf b) = some (sortK b) := pairsL_PF _ _
  rw [h, e2] at e1
  exact (Option.some.inj e1).symm
theorem mg_di {K : List Str} {a b : Js} (ha : GJ K a) (hb : GJ K b) : DI (vg true) (mg a b) := sortK_DI (merge_facts ha.1 hb.1).1
theorem mg_val {K : List Str} {a b : Js} (ha : GJ K a) (hb : GJ K b) (s : Str) : valD (mg a b) (.inr s) = (valD b (.inr s)).or (valD a (.inr s)) := by
  unfold mg
  rw [sortK_val (merge_facts ha.1 hb.1).1, valD_merge _ _ _ hb.1.2]
theorem mg_pairs {K : List Str} {a b : Js} (ha : GJ K a) (hb : GJ K b) : pairsOf (mg a b) = pairsOf (mergeD a b) := sortK_pairs (merge_facts ha.1 hb.1).1
theorem mg_srt {K : List Str} {a b : Js} (ha : GJ K a) (hb : GJ K b) : sortK (mg a b) = mg a b := sortK_same (mg_pairs ha hb)
/-! ### the product of two plans -/
structure Pq where
  pat : List Str
  src : Nat
  fs : List Fr
  w : Js
def dq (q : Pq) : D := prD q.pat q.src q.fs q.w
structure GQ (K N : List Str) (a : Nat) (q : Pq) : Prop where
  gp : GP K N q.pat q.src q.fs q.w
  up : Up q.fs q.w
  pl : q.pat.length ≤ a
  fl : q.fs.length ≤ a
theorem GQ.mono {K N : List Str} {a b : Nat} {q : Pq} (h : GQ K N a q) (hl : a ≤ b) : GQ K N b q := ⟨h.gp, h.up, Nat.le_trans h.pl hl, Nat.le_trans h.fl hl⟩
def nmT (fs : List Fr) : List Str := fs.reverse.map (·.1)
theorem nmT_len (fs : List Fr) : (nmT fs).length = fs.length := by unfold nmT; rw [List.length_map, List.length_reverse]
def spt (a b : Pq) : List Nat := gr b.pat (nmT a.fs) 0
def topF (fs : List Fr) (k : Nat) : Js := ((fs[fs.length - 1 - k]?).map (·.2)).getD []
def inn (a b : Pq) : Js := if b.src = 0 then a.w else match (spt a b)[b.src - 1]? with | some k => topF a.fs k | none => []
def ovf (j : Js) (m : Fr) : Fr := (m.1, mg j m.2)
def kep (a b : Pq) : List Fr := match (spt a b).getLast? with | none => a.fs | some k => a.fs.take (a.fs.length - 1 - k)
def tm (a b : Pq) : Pq := if (spt a b).length = b.pat.length then ⟨a.pat, a.src, kep a b ++ b.fs.map (ovf (inn a b)), mg (inn a b) b.w⟩
  else ⟨a.pat ++ b.pat.drop (spt a b).length, if (spt a b).length < b.src then a.pat.length + b.src - (spt a b).length else a.src, b.fs.map (ovf (inn a b)), mg (inn a b) b.w⟩
theorem spt_bd {a b : Pq} {k : Nat} (h : k ∈ spt a b) : k < a.fs.length := by
  have := gr_bd _ _ _ k h
  rw [nmT_len] at this
  omega
theorem spt_len (a b : Pq) : (spt a b).length ≤ b.pat.length := gr_len _ _ _
theorem topF_mem {fs : List Fr} {k : Nat} (h : k < fs.length) : ∃ m, fs[fs.length - 1 - k]? = some m ∧ topF fs k = m.2 ∧ m ∈ fs := by
  have hlt : fs.length - 1 - k < fs.length := by omega
  refine ⟨fs[fs.length - 1 - k], List.getElem?_eq_getElem hlt, ?_, List.getElem_mem hlt⟩
  unfold topF
  rw [List.getElem?_eq_getElem hlt]
  rfl
section
variable {K N : List Str}
theorem GJ.merge {a b : Js} (ha : GJ K a) (hb : GJ K b) : GJ K (mg a b) ∧ SubJ a (mg a b) := by
  have d := mg_di ha hb
  refine ⟨⟨d, fun t ht => ?_⟩, fun t ht => ?_⟩
  · have := (mem_keysS d t).mp ht
    rw [mg_val ha hb] at this
    cases e : valD b (.inr t) with
    | some y => exact hb.2 t ((mem_keysS hb.1 t).mpr (by rw [e]; rfl))
    | none => rw [e, Option.none_or] at this; exact ha.2 t ((mem_keysS ha.1 t).mpr this)
  · refine (mem_keysS d t).mpr ?_
    rw [mg_val ha hb]
    have := (mem_keysS ha.1 t).mp ht
    cases e : valD b (.inr t) with
    | some y => rfl
    | none => rw [Option.none_or]; exact this
theorem SubJ.merge {i x y : Js} (hi : GJ K i) (hx : GJ K x) (hy : GJ K y) (h : SubJ x y) : SubJ (mg i x) (mg i y) := fun t ht => by
  refine (mem_keysS (hi.merge hy).1.1 t).mpr ?_
  have q := (mem_keysS (hi.merge hx).1.1 t).mp ht
  rw [mg_val hi hx] at q
  rw [mg_val hi hy]
  cases e : valD y (.inr t) with
  | some z => rfl
  | none =>
    rw [Option.none_or]
    cases e2 : valD x (.inr t) with
    | none => rw [e2, Option.none_or] at q; exact q
    | some z =>
      have := (mem_keysS hy.1 t).mp (h t ((mem_keysS hx.1 t).mpr (by rw [e2]; rfl)))
      rw [e] at this
      cases this
theorem inn_gj {x : Nat} {a b : Pq} (ha : GQ K N x a) : GJ K (inn a b) := by
  unfold inn
  split
  · exact ha.gp.gw
  · split
    · rename_i k e
      obtain ⟨m, _, e2, hm⟩ := topF_mem (spt_bd (List.mem_of_getElem? e))
      rw [e2]
      exact (ha.gp.gf m hm).2
    · exact GJ.nil
theorem ovf_gf {j : Js} {fs : List Fr} (hj : GJ K j) (hf : GF K N fs) : GF K N (fs.map (ovf j)) := fun m hm => by
  obtain ⟨m, h, rfl⟩ := List.mem_map.mp hm
  exact ⟨(hf m h).1, (hj.merge (hf m h).2).1⟩
theorem kep_sub (a b : Pq) : ∀ m ∈ kep a b, m ∈ a.fs := fun m hm => by
  unfold kep at hm
  split at hm
  · exact hm
  · exact List.mem_of_mem_take hm
theorem kep_len (a b : Pq) : (kep a b).length ≤ a.fs.length := by
  unfold kep
  split
  · exact Nat.le_refl _
  · rw [List.length_take]; omega
theorem kep_pw {x : Nat} {a b : Pq} (ha : GQ K N x a) : ((kep a b).map (·.2)).Pairwise SubJ := by
  have h := (List.pairwise_append.mp ha.up).1
  unfold kep
  split
  · exact h
  · rw [List.map_take]
    exact h.sublist (List.take_sublist _ _)
theorem kep_inn {x y : Nat} {a b : Pq} (ha : GQ K N x a) (hb : GQ K N y b) (h : (spt a b).length = b.pat.length) : ∀ m ∈ kep a b, SubJ m.2 (inn a b) := fun m hm => by
  unfold inn
  split
  · exact (List.pairwise_append.mp ha.up).2.2 m.2 (List.mem_map_of_mem (kep_sub a b m hm)) a.w (List.mem_singleton.mpr rfl)
  · rename_i h0
    have hs := hb.gp.sl
    have hlt : b.src - 1 < (spt a b).length := by omega
    rw [List.getElem?_eq_getElem hlt]
    have hk := spt_bd (List.getElem_mem hlt)
    obtain ⟨m', e1, e2, _⟩ := topF_mem hk
    show SubJ m.2 (topF a.fs (spt a b)[b.src - 1])
    rw [e2]
    unfold kep at hm
    cases el : (spt a b).getLast? with
    | none =>
      rw [List.getLast?_eq_none_iff] at el
      rw [el] at hlt
      exact absurd hlt (Nat.not_lt_zero _)
    | some k =>
      rw [el] at hm
      obtain ⟨j, hj, ej⟩ := List.mem_iff_getElem.mp hm
      rw [List.length_take] at hj
      rw [List.getElem_take] at ej
      have le : (spt a b)[b.src - 1] ≤ k := by
        have hne : spt a b ≠ [] := fun z => by rw [z] at hlt; exact absurd hlt (Nat.not_lt_zero _)
        rw [List.getLast?_eq_some_getLast hne] at el
        have el := Option.some.inj el
        rw [List.getLast_eq_getElem] at el
        rcases Nat.lt_or_ge (b.src - 1) ((spt a b).length - 1) with z | z
        · have := List.pairwise_iff_getElem.mp (gr_asc b.pat (nmT a.fs) 0) (b.src - 1) ((spt a b).length - 1) hlt (by show (spt a b).length - 1 < (spt a b).length; omega) z
          have : (spt a b)[b.src - 1] < (spt a b)[(spt a b).length - 1]'(by omega) := this
          omega
        · have : b.src - 1 = (spt a b).length - 1 := by omega
          have e3 : (spt a b)[b.src - 1] = (spt a b)[(spt a b).length - 1]'(by omega) := getElem_congr_idx this
          omega
      have hp := (List.pairwise_append.mp ha.up).1
      have hi : a.fs.length - 1 - (spt a b)[b.src - 1] < a.fs.length := by omega
      have := List.pairwise_iff_getElem.mp hp j (a.fs.length - 1 - (spt a b)[b.src - 1]) (by rw [List.length_map]; omega) (by rw [List.length_map]; omega) (by omega)
      rw [List.getElem_map, List.getElem_map, ej] at this
      rw [List.getElem?_eq_getElem hi] at e1
      rw [← Option.some.inj e1]
      exact this
theorem over_pw {y : Nat} {b : Pq} {j : Js} (hj : GJ K j) (hb : GQ K N y b) : ((b.fs.map (ovf j)).map (·.2) ++ [mg j b.w]).Pairwise SubJ := by
  have e : (b.fs.map (ovf j)).map (·.2) ++ [mg j b.w] = (b.fs.map (·.2) ++ [b.w]).map (mg j) := by
    rw [List.map_append, List.map_map, List.map_map]
    rfl
  rw [e, List.pairwise_map]
  have gd : ∀ x ∈ b.fs.map (·.2) ++ [b.w], GJ K x := fun x hx => by
    rcases List.mem_append.mp hx with hx | hx
    · obtain ⟨m, hm, rfl⟩ := List.mem_map.mp hx
      exact (hb.gp.gf m hm).2
    · rw [List.mem_singleton.mp hx]; exact hb.gp.gw
  exact List.Pairwise.imp_of_mem (fun {x y} hx hy q => SubJ.merge hj (gd x hx) (gd y hy) q) hb.up
theorem tm_ok {x y : Nat} {a b : Pq} (ha : GQ K N x a) (hb : GQ K N y b) (hl : x + y ≤ 400) : GQ K N (x + y) (tm a b) := by
  have hj := inn_gj (b := b) ha
  have p1 := ha.pl
  have p2 := hb.pl
  have f1 := ha.fl
  have f2 := hb.fl
  have s1 := ha.gp.sl
  have s2 := hb.gp.sl
  have kl := kep_len a b
  have sl := spt_len a b
  have ow := over_pw hj hb
  unfold tm
  split
  · rename_i h
    refine ⟨⟨ha.gp.kn, ha.gp.pn, ha.gp.sl, fun m hm => ?_, (hj.merge hb.gp.gw).1, by show a.pat.length ≤ 400; omega, by show (kep a b ++ b.fs.map (ovf (inn a b))).length ≤ 400; rw [List.length_append, List.length_map]; omega⟩, ?_, by show a.pat.length ≤ x + y; omega, by show (kep a b ++ b.fs.map (ovf (inn a b))).length ≤ x + y; rw [List.length_append, List.length_map]; omega⟩
    · rcases List.mem_append.mp hm with hm | hm
      · exact ha.gp.gf m (kep_sub a b m hm)
      · exact ovf_gf hj hb.gp.gf m hm
    · show ((kep a b ++ b.fs.map (ovf (inn a b))).map (·.2) ++ [mg (inn a b) b.w]).Pairwise SubJ
      rw [List.map_append, List.append_assoc, List.pairwise_append]
      refine ⟨kep_pw ha, ow, fun u hu v hv => ?_⟩
      obtain ⟨m, hm, rfl⟩ := List.mem_map.mp hu
      refine SubJ.trans (kep_inn ha hb h m hm) ?_
      rcases List.mem_append.mp hv with hv | hv
      · rw [List.map_map] at hv
        obtain ⟨m2, hm2, rfl⟩ := List.mem_map.mp hv
        exact (hj.merge (hb.gp.gf m2 hm2).2).2
      · rw [List.mem_singleton.mp hv]; exact (hj.merge hb.gp.gw).2
  · refine ⟨⟨ha.gp.kn, fun n hn => ?_, ?_, ovf_gf hj hb.gp.gf, (hj.merge hb.gp.gw).1, ?_, by show (b.fs.map (ovf (inn a b))).length ≤ 400; rw [List.length_map]; omega⟩, ow, ?_, by show (b.fs.map (ovf (inn a b))).length ≤ x + y; rw [List.length_map]; omega⟩
    · rcases List.mem_append.mp hn with hn | hn
      · exact ha.gp.pn n hn
      · exact hb.gp.pn n (List.mem_of_mem_drop hn)
    · show (if (spt a b).length < b.src then a.pat.length + b.src - (spt a b).length else a.src) ≤ (a.pat ++ b.pat.drop (spt a b).length).length
      rw [List.length_append, List.length_drop]
      split <;> omega
    · show (a.pat ++ b.pat.drop (spt a b).length).length ≤ 400
      rw [List.length_append, List.length_drop]; omega
    · show (a.pat ++ b.pat.drop (spt a b).length).length ≤ x + y
      rw [List.length_append, List.length_drop]; omega
end
end Q24

namespace Q24
open PySem PySem.Spec L2 PL
/-! ### the product as the program makes it, and as the law does -/
def nm0 : D → D
  | .tup (y :: _) => y
  | x => x
theorem nmap_eq {fs : List Fr} (hl : fs.length ≤ 1000) : mapP (fun x => ixD x (.int 0)) (fs.map frD).reverse = ret ((nmT fs).map .str) := by
  rw [mapP_ret (g := nm0) (by rw [List.length_reverse, List.length_map]; omega) fun x hx => ?_]
  · unfold nmT
    rw [← List.map_reverse, List.map_map, List.map_map]
    rfl
  · obtain ⟨m, _, rfl⟩ := List.mem_map.mp (List.mem_reverse.mp hx)
    exact ix0 _ _
def pk (n k : Nat) : D := .int ((n : Int) - 1 - (k : Int))
theorem intI_pk (n k : Nat) : intI (pk n k) = PL.ret ((n : Int) - 1 - (k : Int)) := rfl
def subF (n : Nat) : D → D
  | .int i => .int ((n : Int) - 1 - i)
  | x => x
theorem own_places_eq {pat : List Str} {fs : List Fr} (hp : pat.length ≤ 1000) (hl : fs.length ≤ 1000) : d_own_places (.tup (pat.map .str)) (.tup (fs.map frD)) = ret (.lst ((gr pat (nmT fs) 0).map (pk fs.length))) := by
  have gl := gr_len pat (nmT fs) 0
  unfold d_own_places
  rw [lenI_tup, bnd_ret, bnd_ret, List.length_map, show revD (.tup (fs.map frD)) = ret (.tup (fs.map frD).reverse) from rfl, bnd_ret, show items (.tup (fs.map frD).reverse) = ret (fs.map frD).reverse from rfl, bnd_ret, nmap_eq hl, bnd_ret, places_in_eq hp, cl_ret, bnd_ret,
    show items (.lst ((gr pat (nmT fs) 0).map natD)) = ret ((gr pat (nmT fs) 0).map natD) from rfl, bnd_ret, mapP_ret (g := subF fs.length) (by rw [List.length_map]; omega) fun x hx => ?_, bnd_ret, List.map_map]
  · rfl
  · obtain ⟨k, _, rfl⟩ := List.mem_map.mp hx
    rfl
theorem ix_natL {α : Type} {l : List α} {f : α → D} {i : Nat} (h : i < l.length) : ixD (.lst (l.map f)) (.int (i : Int)) = ret (f l[i]) := ix_l (atI_nat (by rw [List.getElem?_map, List.getElem?_eq_getElem h]; rfl))
theorem ix_fr {fs : List Fr} {k : Nat} (h : k < fs.length) : (bnd (ixD (.tup (fs.map frD)) (.int ((fs.length : Int) - 1 - (k : Int)))) fun y => ixD y (.int 1)) = ret (.tup (pairsOf (topF fs k))) := by
  obtain ⟨m, e1, e2, _⟩ := topF_mem h
  rw [show ((fs.length : Int) - 1 - (k : Int)) = ((fs.length - 1 - k : Nat) : Int) by omega, ix_t (x := frD m) (atI_nat (by rw [List.getElem?_map, e1]; rfl)), bnd_ret, e2]
  exact ix1 _ _ _
theorem ix_lastL {xs : List D} (h : xs ≠ []) : ixD (.lst xs) (.int (-1)) = ret (xs.getLast h) := by
  have hl : 0 < xs.length := List.length_pos_iff.mpr h
  refine ix_l ?_
  have e : ixN xs.length (-1) = some (xs.length - 1) := by
    unfold ixN
    rw [if_neg (by decide), if_pos (by omega)]
    congr 1
    omega
  unfold atI
  rw [e]
  show xs[xs.length - 1]? = _
  rw [List.getElem?_eq_getElem (by omega), List.getLast_eq_getElem]
theorem inner_eq {a b : Pq} : d_inner_map (dq a) (.lst ((spt a b).map (pk a.fs.length))) (.int (b.src : Int)) = ret (.tup (pairsOf (inn a b))) := by
  unfold d_inner_map inn
  rw [eqB_int, bnd_ret]
  by_cases h : b.src = 0
  · rw [decide_eq_true (by omega : (b.src : Int) = 0), if_pos rfl, if_pos h]
    exact ix3 _ _ _ _ _
  · rw [decide_eq_false (by omega : ¬ (b.src : Int) = 0), if_neg (by decide), if_neg h, intI_int, bnd_ret, lenI_lst, bnd_ret, List.length_map]
    by_cases h2 : b.src ≤ (spt a b).length
    · have hlt : b.src - 1 < (spt a b).length := by omega
      rw [decide_eq_true (by omega : (b.src : Int) ≤ ((spt a b).length : Int)), if_pos rfl, show ixD (dq a) (.int 2) = ret (.tup (a.fs.map frD)) from ix2 _ _ _ _, bnd_ret, bnd_ret, show ((b.src : Int) - 1) = ((b.src - 1 : Nat) : Int) by omega, ix_natL hlt, bnd_ret, intI_pk, bnd_ret, ix_fr (spt_bd (List.getElem_mem hlt)), List.getElem?_eq_getElem hlt]
    · rw [decide_eq_false (by omega : ¬ (b.src : Int) ≤ ((spt a b).length : Int)), if_neg (by decide), List.getElem?_eq_none (by omega)]
      show _ = (ret (D.tup (pairsOf [])) : W D)
      rw [pairsOf_e]
theorem compP_fr {f : D → W (Option D)} {g : Fr → D} : ∀ {l : List Fr}, (∀ m ∈ l, f (frD m) = ret (some (g m))) → compP f (l.map frD) = ret (l.map g)
  | [], _ => rfl
  | m :: l, h => by
    show bnd (f (frD m)) _ = _
    rw [h m List.mem_cons_self, bnd_ret]
    show bnd (compP f (l.map frD)) _ = _
    rw [compP_fr fun x hx => h x (List.mem_cons_of_mem _ hx), bnd_ret]
    rfl
section
variable {K N : List Str}
theorem ov_eq {j k : Js} (hK : K.length ≤ 8) (hj : GJ K j) (hm : GJ K k) : d_overlaid (.tup (pairsOf j)) (.tup (pairsOf k)) = ret (.tup (pairsOf (mg j k))) := by
  have l1 := hj.len
  have l2 := hm.len
  rw [mg_pairs hj hm]
  exact overlaid_eq hj.1 hm.1 (by omega)
theorem frames_eq {j : Js} {fs : List Fr} (hK : K.length ≤ 8) (hj : GJ K j) (hf : GF K N fs) (hl : fs.length ≤ 1000) : d_frames_over (.tup (pairsOf j)) (.tup (fs.map frD)) = ret (.tup ((fs.map (ovf j)).map frD)) := by
  unfold d_frames_over
  rw [show items (.tup (fs.map frD)) = ret (fs.map frD) from rfl, bnd_ret, fewN_pos (by rw [List.length_map]; omega), compP_fr (g := fun m => frD (ovf j m)) fun m hm => ?_, quiet_ret, bnd_ret, List.map_map]
  · rfl
  · show bnd (bnd (cl (d_overlaid (.tup (pairsOf j)) (.tup (pairsOf m.2)))) _) _ = _
    rw [ov_eq hK hj (hf m hm).2, cl_ret, bnd_ret, bnd_ret]
    rfl
theorem sl_fr (fs : List Fr) (k : Nat) (h : k < fs.length) : slD (.tup (fs.map frD)) none (some ((fs.length : Int) - 1 - (k : Int))) = ret (.tup ((fs.take (fs.length - 1 - k)).map frD)) := by
  rw [slD_tup, show ((fs.length : Int) - 1 - (k : Int)) = ((fs.length - 1 - k : Nat) : Int) by omega, cut_take, List.map_take]
theorem sl_pat (pat : List Str) (k : Nat) : slD (.tup (pat.map .str)) (some (k : Int)) none = ret (.tup ((pat.drop k).map .str)) := by
  rw [slD_tup, cut_drop, List.map_drop]
/-- how many names at the end a plan of this one keeps -/
theorem kep_some {a b : Pq} (h : spt a b ≠ []) : kep a b = a.fs.take (a.fs.length - 1 - (spt a b).getLast h) := by
  unfold kep
  rw [List.getLast?_eq_some_getLast h]
theorem kep_none {a b : Pq} (h : spt a b = []) : kep a b = a.fs := by
  unfold kep
  rw [h]
  rfl
theorem composed_eq {x y : Nat} {a b : Pq} (ha : GQ K N x a) (hb : GQ K N y b) (hl : x + y ≤ 400) : d_composed (dq a) (dq b) = ret (dq (tm a b)) := by
  have hK := ha.gp.kl
  have hj := inn_gj (b := b) ha
  have p1 := ha.pl
  have p2 := hb.pl
  have f1 := ha.fl
  have f2 := hb.fl
  have sl := spt_len a b
  have l1 := hj.len
  have l2 := hb.gp.gw.len
  have e0 : ixD (dq b) (.int 0) = ret (.tup (b.pat.map .str)) := ix0 _ _
  have e1 : ixD (dq b) (.int 1) = ret (.int (b.src : Int)) := ix1 _ _ _
  have e2 : ixD (dq b) (.int 2) = ret (.tup (b.fs.map frD)) := ix2 _ _ _ _
  have e3 : ixD (dq b) (.int 3) = ret (.tup (pairsOf b.w)) := ix3 _ _ _ _ _
  have eo : d_own_places (.tup (b.pat.map .str)) (.tup (a.fs.map frD)) = ret (.lst ((spt a b).map (pk a.fs.length))) := own_places_eq (by omega) (by omega)
  unfold d_composed
  rw [show unp4 (dq a) = ret (.tup (a.pat.map .str), .int (a.src : Int), .tup (a.fs.map frD), .tup (pairsOf a.w)) from rfl, bnd_ret, e0, e1, e2, e3]
  simp only [bnd_ret]
  rw [eo, cl_ret, bnd_ret, inner_eq, cl_ret, bnd_ret, frames_eq hK hj hb.gp.gf (by omega), cl_ret, bnd_ret, ov_eq hK hj hb.gp.gw, cl_ret, bnd_ret, lenI_lst, bnd_ret, lenI_tup, bnd_ret, bnd_ret, List.length_map, List.length_map]
  unfold tm
  by_cases h : (spt a b).length = b.pat.length
  · rw [decide_eq_true (by omega : ((spt a b).length : Int) = (b.pat.length : Int)), if_pos rfl, if_pos h]
    have fin : addD (.tup ((kep a b).map frD)) (.tup ((b.fs.map (ovf (inn a b))).map frD)) = ret (.tup ((kep a b ++ b.fs.map (ovf (inn a b))).map frD)) := by
      have kl := kep_len a b
      rw [tup_add _ _ (by rw [List.length_map, List.length_map, List.length_map]; omega), List.map_append]
    by_cases hz : spt a b = []
    · rw [decide_eq_true (by rw [hz]; rfl : ((spt a b).length : Int) = 0), if_pos rfl, bnd_ret]
      rw [kep_none hz] at fin ⊢
      show bnd (addD (.tup (a.fs.map frD)) _) _ = _
      rw [fin, bnd_ret]
      rfl
    · have hp : 0 < (spt a b).length := List.length_pos_iff.mpr hz
      have hne : (spt a b).map (pk a.fs.length) ≠ [] := by simpa using hz
      have hlt := spt_bd (List.getLast_mem hz)
      rw [decide_eq_false (by omega : ¬ ((spt a b).length : Int) = 0), if_neg (by decide), ix_lastL hne, bnd_ret, List.getLast_map, intI_pk, bnd_ret]
      show bnd (slD (.tup (a.fs.map frD)) none (some ((a.fs.length : Int) - 1 - ((spt a b).getLast hz : Int)))) _ = _
      rw [sl_fr _ _ hlt, bnd_ret, ← kep_some hz, fin, bnd_ret]
      rfl
  · rw [decide_eq_false (by omega : ¬ ((spt a b).length : Int) = (b.pat.length : Int)), if_neg (by decide), if_neg h, intI_int, bnd_ret, bnd_ret]
    have fin : (bnd (slD (.tup (b.pat.map .str)) (some ((spt a b).length : Int)) none) fun s1 => addD (.tup (a.pat.map .str)) s1) = ret (.tup ((a.pat ++ b.pat.drop (spt a b).length).map .str)) := by
      rw [sl_pat, bnd_ret, tup_add _ _ (by rw [List.length_map, List.length_map, List.length_drop]; omega), List.map_append]
    by_cases h2 : (spt a b).length < b.src
    · rw [decide_eq_true (by omega : ((spt a b).length : Int) < (b.src : Int)), if_pos rfl, if_pos h2]
      show bnd (bnd (bnd (lenI (.tup (a.pat.map .str))) _) _) _ = _
      rw [lenI_tup, bnd_ret, bnd_ret, bnd_ret, bnd_ret, ← bnd_bnd]
      show bnd (bnd (slD (.tup (b.pat.map .str)) (some ((spt a b).length : Int)) none) fun s1 => addD (.tup (a.pat.map .str)) s1) _ = _
      rw [fin, bnd_ret, List.length_map, show ((a.pat.length : Int) + (b.src : Int) - ((spt a b).length : Int)) = ((a.pat.length + b.src - (spt a b).length : Nat) : Int) by omega]
      rfl
    · rw [decide_eq_false (by omega : ¬ ((spt a b).length : Int) < (b.src : Int)), if_neg (by decide), if_neg h2, bnd_ret, ← bnd_bnd]
      show bnd (bnd (slD (.tup (b.pat.map .str)) (some ((spt a b).length : Int)) none) fun s1 => addD (.tup (a.pat.map .str)) s1) _ = _
      rw [fin, bnd_ret]
      rfl
end
end Q24

namespace Q24
open PySem PySem.Spec L2 PL
section
variable {K N : List Str}
/-! ### plans multiplied -/
theorem mul_eq {x y : Nat} {a b : Pq} (ha : GQ K N x a) (hb : GQ K N y b) (hl : x + y ≤ 400) : d_Plan_mul (plD' (dq a)) (plD' (dq b)) = ret (plD' (dq (tm a b))) := by
  have h := tm_ok ha hb hl
  have i := init_eq h.gp h.up
  have e0 : ixD (dq (tm a b)) (.int 0) = ret (.tup ((tm a b).pat.map .str)) := ix0 _ _
  have e1 : ixD (dq (tm a b)) (.int 1) = ret (.int ((tm a b).src : Int)) := ix1 _ _ _
  have e2 : ixD (dq (tm a b)) (.int 2) = ret (.tup ((tm a b).fs.map frD)) := ix2 _ _ _ _
  have e3 : ixD (dq (tm a b)) (.int 3) = ret (.tup (pairsOf (tm a b).w)) := ix3 _ _ _ _ _
  unfold d_Plan_mul
  rw [ins_own, bnd_ret, tru_bl, bnd_ret, bnd_ret, if_neg (by decide), fld_own, bnd_ret, fld_own, bnd_ret, composed_eq ha hb hl, cl_ret, bnd_ret, e0, bnd_ret, e1, bnd_ret, e2, bnd_ret, e3, bnd_ret, i, cl_ret, bnd_ret]
  rfl
theorem mul_ins {x y : Nat} {a b : Pq} (ha : GQ K N x a) (hb : GQ K N y b) (hl : x + y ≤ 400) : insIs (Str.ofString "Plan") (Str.ofString "own_parts") (plD' (dq a)) (insIs (Str.ofString "Plan") (Str.ofString "own_parts") (plD' (dq b)) (quiet (cl (d_Plan_mul (plD' (dq a)) (plD' (dq b)))))) = ret (plD' (dq (tm a b))) := by
  rw [ins_own, ins_own, mul_eq ha hb hl, cl_ret, quiet_ret]
theorem call4 (a b c e : D) : callM m_Plan_init [.d a, .d b, .d c, .d e] = cl (d_Plan_init a b c e) := rfl
theorem new0 : newK m_Plan_init (Str.ofString "Plan") (Str.ofString "own_parts") [.d (.tup []), .d (.int 0), .d (.tup []), .d (.tup [])] = ret (plD' (prD [] 0 [] [])) := by
  rw [newK_eq, call4, init0, cl_ret, bnd_ret]
  rfl
def em : Pq := ⟨[], 0, [], []⟩
theorem em_ok (h : Kn K N) : GQ K N 0 em := ⟨⟨h, fun _ hn => (nomatch hn), Nat.le_refl 0, fun _ hm => (nomatch hm), GJ.nil, Nat.zero_le _, Nat.zero_le _⟩, List.pairwise_singleton _ _, Nat.le_refl 0, Nat.le_refl 0⟩
/-- every map sorted -/
def Cq (q : Pq) : Prop := (∀ m ∈ q.fs, sortK m.2 = m.2) ∧ sortK q.w = q.w
def cn (q : Pq) : Pq := ⟨q.pat, q.src, q.fs.map fun m => (m.1, sortK m.2), sortK q.w⟩
theorem tm_em {x : Nat} {q : Pq} (h : GQ K N x q) (hc : Cq q) : tm em q = q := by
  have hs : spt em q = [] := by
    have e : spt em q = gr q.pat [] 0 := rfl
    rw [e]
    cases q.pat <;> rfl
  have hi : inn em q = [] := by
    unfold inn
    rw [hs]
    split <;> rfl
  have ho : q.fs.map (ovf []) = q.fs := by
    conv => rhs; rw [← List.map_id q.fs]
    refine List.map_congr_left fun m hm => ?_
    unfold ovf mg
    rw [merge_nil (h.gp.gf m hm).2.1, hc.1 m hm]
    rfl
  have hw : mg [] q.w = q.w := by
    unfold mg
    rw [merge_nil h.gp.gw.1, hc.2]
  have sl := h.gp.sl
  unfold tm
  rw [hs, hi, ho, hw, kep_none hs]
  obtain ⟨pat, src, fs, w⟩ := q
  show (if 0 = pat.length then (⟨[], 0, [] ++ fs, w⟩ : Pq) else ⟨[] ++ pat.drop 0, if 0 < src then 0 + src - 0 else 0, fs, w⟩) = ⟨pat, src, fs, w⟩
  have sl : src ≤ pat.length := sl
  by_cases hp : 0 = pat.length
  · rw [if_pos hp]
    have e1 : pat = [] := List.length_eq_zero_iff.mp hp.symm
    have e2 : src = 0 := by omega
    subst e1 e2
    rfl
  · rw [if_neg hp]
    by_cases h0 : 0 < src
    · rw [if_pos h0, show 0 + src - 0 = src by omega]
      rfl
    · rw [if_neg h0, show src = 0 by omega]
      rfl
/-! ### the parts of a script -/
def sgl : Cd → Pq
  | .wr k x => ⟨[], 0, [], [(.inr k, x)]⟩
  | .mark n => ⟨[], 0, [(n, [])], []⟩
  | .back n => ⟨[n], 1, [(n, [])], []⟩
  | .keep n => ⟨[n], 0, [], []⟩
end
end Q24

namespace Q24
open PySem PySem.Spec L2 PL
/-! ### plans of many runs -/
def rpt {α : Type} (n : Nat) (l : List α) : List α := (List.replicate n l).flatten
theorem rpt_zero {α : Type} (l : List α) : rpt 0 l = [] := rfl
theorem rpt_one {α : Type} (l : List α) : rpt 1 l = l := by
  show (List.replicate 1 l).flatten = l
  simp
theorem rpt_succ {α : Type} (n : Nat) (l : List α) : rpt (n + 1) l = rpt n l ++ l := by
  unfold rpt
  rw [List.replicate_succ', List.flatten_append, List.flatten_cons, List.flatten_nil, List.append_nil]
theorem rpt_len {α : Type} (n : Nat) (l : List α) : (rpt n l).length = l.length * n := by
  induction n with
  | zero => rfl
  | succ n ih => rw [rpt_succ, List.length_append, ih, Nat.mul_succ]
theorem rpt_map {α β : Type} (f : α → β) (n : Nat) (l : List α) : (rpt n l).map f = rpt n (l.map f) := by
  unfold rpt
  rw [List.map_flatten, List.map_replicate]
def kpt (q : Pq) : List Fr := if (spt q q).length = q.pat.length then kep q q else []
def mor (q : Pq) : List Str := q.pat.drop (spt q q).length
def inq (q : Pq) : Js := inn q q
def pw (q : Pq) : Nat → Pq
  | 0 => em
  | 1 => q
  | n + 2 => if (spt q q).length = q.pat.length then ⟨q.pat, q.src, kpt q ++ rpt n ((kpt q).map (ovf (inq q))) ++ q.fs.map (ovf (inq q)), mg (inq q) q.w⟩
    else ⟨q.pat ++ rpt (n + 1) (mor q), if (spt q q).length < q.src then q.src + (mor q).length * (n + 1) else q.src, q.fs.map (ovf (inq q)), mg (inq q) q.w⟩
theorem pw_full {q : Pq} (h : (spt q q).length = q.pat.length) (n : Nat) : pw q (n + 2) = ⟨q.pat, q.src, kpt q ++ rpt n ((kpt q).map (ovf (inq q))) ++ q.fs.map (ovf (inq q)), mg (inq q) q.w⟩ := if_pos h
theorem pw_part {q : Pq} (h : ¬ (spt q q).length = q.pat.length) (n : Nat) : pw q (n + 2) = ⟨q.pat ++ rpt (n + 1) (mor q), if (spt q q).length < q.src then q.src + (mor q).length * (n + 1) else q.src, q.fs.map (ovf (inq q)), mg (inq q) q.w⟩ := if_neg h
theorem nmT_ovf (j : Js) (fs : List Fr) : nmT (fs.map (ovf j)) = nmT fs := by
  unfold nmT
  rw [← List.map_reverse, List.map_map]
  rfl
theorem nmT_app (a b : List Fr) : nmT (a ++ b) = nmT b ++ nmT a := by
  unfold nmT
  rw [List.reverse_append, List.map_append]
theorem gr_app (ms : List Str) : ∀ (ps ns : List Str) (i : Nat), (gr ps ns i).length = ps.length → gr ps (ns ++ ms) i = gr ps ns i
  | [], ns, i, _ => by rw [gr_nil, gr_nil]
  | _ :: _, [], i, h => nomatch h
  | p :: ps, n :: ns, i, h => by
    rw [gr_cons] at h
    rw [List.cons_append, gr_cons, gr_cons]
    by_cases e : n = p
    · rw [if_pos e] at h ⊢
      rw [if_pos e, gr_app ms ps ns (i + 1) (by rw [List.length_cons, List.length_cons] at h; omega)]
    · rw [if_neg e] at h ⊢
      rw [if_neg e, gr_app ms (p :: ps) ns (i + 1) h]
theorem topF_app {a b : List Fr} {k : Nat} (h : k < b.length) : topF (a ++ b) k = topF b k := by
  unfold topF
  rw [List.length_append, List.getElem?_append_right (by omega), show a.length + b.length - 1 - k - a.length = b.length - 1 - k by omega]
theorem topF_ovf {j : Js} {fs : List Fr} {k : Nat} (h : k < fs.length) : topF (fs.map (ovf j)) k = mg j (topF fs k) := by
  have hlt : fs.length - 1 - k < fs.length := by omega
  unfold topF
  rw [List.length_map, List.getElem?_map, List.getElem?_eq_getElem hlt]
  rfl
section
variable {K N : List Str}
theorem mg_idem {i j : Js} (hi : GJ K i) (hj : GJ K j) : mg (mg i i) j = mg i j := by
  have hii := (hi.merge hi).1
  refine sortK_same (pairsOf_congr (merge_facts hii.1 hj.1).1 (merge_facts hi.1 hj.1).1 fun s => ?_)
  rw [valD_merge _ _ _ hj.1.2, valD_merge _ _ _ hj.1.2, mg_val hi hi]
  cases valD j (.inr s) <;> cases valD i (.inr s) <;> rfl
theorem inn_pow {x : Nat} {q P : Pq} (hq : GQ K N x q) {A : List Fr} (hf : P.fs = A ++ q.fs.map (ovf (inq q))) (hw : P.w = mg (inq q) q.w) (hs : spt P q = spt q q) : inn P q = mg (inq q) (inq q) := by
  have e : inq q = inn q q := rfl
  unfold inn at e ⊢
  rw [hs]
  by_cases h0 : q.src = 0
  · rw [if_pos h0] at e ⊢
    rw [hw, e]
  · rw [if_neg h0] at e ⊢
    cases ek : (spt q q)[q.src - 1]? with
    | none =>
      rw [ek] at e
      have e : inq q = [] := e
      show [] = mg (inq q) (inq q)
      rw [e]
      unfold mg
      exact sortK_e.symm
    | some k =>
      rw [ek] at e
      have e : inq q = topF q.fs k := e
      have hk := spt_bd (List.mem_of_getElem? ek)
      show topF P.fs k = _
      rw [hf, topF_app (by rw [List.length_map]; exact hk), topF_ovf hk, ← e]
theorem ov_same {x : Nat} {q : Pq} (hq : GQ K N x q) : q.fs.map (ovf (mg (inq q) (inq q))) = q.fs.map (ovf (inq q)) ∧ mg (mg (inq q) (inq q)) q.w = mg (inq q) q.w := by
  have hi : GJ K (inq q) := inn_gj hq
  refine ⟨List.map_congr_left fun m hm => ?_, mg_idem hi hq.gp.gw⟩
  unfold ovf
  rw [mg_idem hi (hq.gp.gf m hm).2]
theorem kep_pow {q P : Pq} {A : List Fr} (hf : P.fs = A ++ q.fs.map (ovf (inq q))) (hs : spt P q = spt q q) : kep P q = A ++ (kep q q).map (ovf (inq q)) := by
  unfold kep
  rw [hs]
  cases e : (spt q q).getLast? with
  | none => exact hf
  | some k =>
    have hk := spt_bd (List.mem_of_getLast? e)
    show P.fs.take (P.fs.length - 1 - k) = A ++ (q.fs.take (q.fs.length - 1 - k)).map (ovf (inq q))
    rw [hf, List.length_append, List.length_map, List.take_append, List.take_of_length_le (by omega), show A.length + q.fs.length - 1 - k - A.length = q.fs.length - 1 - k by omega, List.map_take]
theorem pw_succ {x : Nat} {q : Pq} (hq : GQ K N x q) (hc : Cq q) : ∀ t : Nat, tm (pw q t) q = pw q (t + 1)
  | 0 => tm_em hq hc
  | 1 => by
    show tm q q = pw q 2
    unfold tm
    by_cases h : (spt q q).length = q.pat.length
    · have ek : kpt q = kep q q := if_pos h
      rw [if_pos h, pw_full h 0, rpt_zero, List.append_nil, ek]
      rfl
    · have lm : (mor q).length = q.pat.length - (spt q q).length := List.length_drop
      have sl := spt_len q q
      rw [if_neg h, pw_part h 0, rpt_one]
      have es : (if (spt q q).length < q.src then q.pat.length + q.src - (spt q q).length else q.src) = if (spt q q).length < q.src then q.src + (mor q).length * (0 + 1) else q.src := by
        split
        · omega
        · rfl
      rw [es]
      rfl
  | n + 2 => by
    obtain ⟨o1, o2⟩ := ov_same hq
    by_cases h : (spt q q).length = q.pat.length
    · have ek : kpt q = kep q q := if_pos h
      have eP := pw_full h n
      rw [pw_full h (n + 1)]
      generalize pw q (n + 2) = P at eP ⊢
      have hf : P.fs = (kpt q ++ rpt n ((kpt q).map (ovf (inq q)))) ++ q.fs.map (ovf (inq q)) := by rw [eP]
      have hs : spt P q = spt q q := by
        show gr q.pat (nmT P.fs) 0 = gr q.pat (nmT q.fs) 0
        rw [hf, nmT_app, nmT_ovf]
        exact gr_app _ q.pat (nmT q.fs) 0 h
      have hi := inn_pow hq hf (by rw [eP]) hs
      have hk := kep_pow hf hs
      unfold tm
      rw [hs, if_pos h, hi, o1, o2, hk, eP, rpt_succ, ← ek]
      show (⟨q.pat, q.src, (kpt q ++ rpt n ((kpt q).map (ovf (inq q)))) ++ (kpt q).map (ovf (inq q)) ++ q.fs.map (ovf (inq q)), mg (inq q) q.w⟩ : Pq) = _
      rw [List.append_assoc (kpt q)]
    · have eP := pw_part h n
      rw [pw_part h (n + 1)]
      generalize pw q (n + 2) = P at eP ⊢
      have hf : P.fs = [] ++ q.fs.map (ovf (inq q)) := by rw [eP]; rfl
      have hs : spt P q = spt q q := by
        show gr q.pat (nmT P.fs) 0 = gr q.pat (nmT q.fs) 0
        rw [hf, List.nil_append, nmT_ovf]
      have hi := inn_pow hq hf (by rw [eP]) hs
      have lm : (mor q).length = q.pat.length - (spt q q).length := List.length_drop
      have sl := spt_len q q
      have lp : P.pat.length = q.pat.length + (mor q).length * (n + 1) := by rw [eP]; show (q.pat ++ rpt (n + 1) (mor q)).length = _; rw [List.length_append, rpt_len]
      unfold tm
      rw [hs, if_neg h, hi, o1, o2]
      have es : (if (spt q q).length < q.src then P.pat.length + q.src - (spt q q).length else P.src) = if (spt q q).length < q.src then q.src + (mor q).length * (n + 1 + 1) else q.src := by
        by_cases h2 : (spt q q).length < q.src
        · rw [if_pos h2, if_pos h2, lp, Nat.mul_succ (mor q).length (n + 1)]
          omega
        · rw [if_neg h2, if_neg h2, eP]
          exact if_neg h2
      rw [es]
      have ep : P.pat ++ q.pat.drop (spt q q).length = q.pat ++ rpt (n + 1 + 1) (mor q) := by
        rw [rpt_succ (n + 1), ← List.append_assoc, eP]
        rfl
      rw [ep]
end
end Q24

namespace Q24
open PySem PySem.Spec L2 PL
/-! ### products, one name after another -/
/-- names, frames from the top: the maps found, the frames below them, the names that are not found -/
def con : List Str → List Fr → List Js × List Fr × List Str
  | [], F => ([], F, [])
  | p :: ps, [] => ([], [], p :: ps)
  | p :: ps, m :: F => if m.1 = p then (m.2 :: (con ps F).1, (con ps F).2) else con (p :: ps) F
theorem con_nil (F : List Fr) : con [] F = ([], F, []) := by cases F <;> rfl
theorem con_end (P : List Str) : con P [] = ([], [], P) := by cases P <;> rfl
theorem con_cons (p : Str) (ps : List Str) (m : Fr) (F : List Fr) : con (p :: ps) (m :: F) = if m.1 = p then (m.2 :: (con ps F).1, (con ps F).2) else con (p :: ps) F := by rw [con]
theorem con_left : ∀ (P : List Str) (F : List Fr), (con P F).2.2 ≠ [] → (con P F).2.1 = []
  | [], F, h => by rw [con_nil] at h; exact absurd rfl h
  | p :: ps, [], h => rfl
  | p :: ps, m :: F, h => by
    rw [con_cons] at h ⊢
    split at h
    · rename_i e
      rw [if_pos e]
      exact con_left ps F h
    · rename_i e
      rw [if_neg e]
      exact con_left (p :: ps) F h
theorem con_len : ∀ (P : List Str) (F : List Fr), (con P F).1.length + (con P F).2.2.length = P.length
  | [], F => by rw [con_nil]; rfl
  | p :: ps, [] => by rw [con_end]; exact Nat.zero_add _
  | p :: ps, m :: F => by
    rw [con_cons]
    split
    · have := con_len ps F
      show (con ps F).1.length + 1 + (con ps F).2.2.length = ps.length + 1
      omega
    · exact con_len (p :: ps) F
theorem con_app (Y : List Fr) : ∀ (P : List Str) (X : List Fr), con P (X ++ Y) = ((con P X).1 ++ (con (con P X).2.2 Y).1, (con P X).2.1 ++ (con (con P X).2.2 Y).2.1, (con (con P X).2.2 Y).2.2)
  | [], X => by rw [con_nil, con_nil, con_nil]; rfl
  | p :: ps, [] => by rw [con_end]; rfl
  | p :: ps, m :: X => by
    rw [List.cons_append, con_cons, con_cons]
    by_cases e : m.1 = p
    · rw [if_pos e, if_pos e, con_app Y ps X]
      rfl
    · rw [if_neg e, if_neg e, con_app Y (p :: ps) X]
theorem con_pat (Q : List Str) : ∀ (P : List Str) (F : List Fr), con (P ++ Q) F = ((con P F).1 ++ (con Q (con P F).2.1).1, (con Q (con P F).2.1).2.1, (con P F).2.2 ++ (con Q (con P F).2.1).2.2)
  | [], F => by rw [con_nil]; rfl
  | p :: ps, [] => by rw [con_end, con_end, con_end]; rfl
  | p :: ps, m :: F => by
    rw [List.cons_append, con_cons, con_cons]
    by_cases e : m.1 = p
    · rw [if_pos e, if_pos e, con_pat Q ps F]
      rfl
    · have := con_pat Q (p :: ps) F
      rw [List.cons_append] at this
      rw [if_neg e, if_neg e, this]
theorem con_map (j : Js) : ∀ (P : List Str) (F : List Fr), con P (F.map (ovf j)) = ((con P F).1.map (mg j), (con P F).2.1.map (ovf j), (con P F).2.2)
  | [], F => by rw [con_nil, con_nil]; rfl
  | p :: ps, [] => by rw [List.map_nil, con_end]; rfl
  | p :: ps, m :: F => by
    rw [List.map_cons, con_cons, con_cons]
    by_cases e : m.1 = p
    · rw [if_pos (show (ovf j m).1 = p from e), if_pos e, con_map j ps F]
      rfl
    · rw [if_neg (show ¬ (ovf j m).1 = p from e), if_neg e, con_map j (p :: ps) F]
theorem con_mem : ∀ (P : List Str) (F : List Fr), (∀ x ∈ (con P F).1, ∃ m ∈ F, m.2 = x) ∧ ∀ m ∈ (con P F).2.1, m ∈ F
  | [], F => by rw [con_nil]; exact ⟨fun x hx => (nomatch hx), fun m hm => hm⟩
  | p :: ps, [] => by rw [con_end]; exact ⟨fun x hx => (nomatch hx), fun m hm => hm⟩
  | p :: ps, m :: F => by
    rw [con_cons]
    split
    · obtain ⟨h1, h2⟩ := con_mem ps F
      refine ⟨fun x hx => ?_, fun y hy => List.mem_cons_of_mem _ (h2 y hy)⟩
      rcases List.mem_cons.mp hx with rfl | hx
      · exact ⟨m, List.mem_cons_self, rfl⟩
      · obtain ⟨y, hy, e⟩ := h1 x hx
        exact ⟨y, List.mem_cons_of_mem _ hy, e⟩
    · obtain ⟨h1, h2⟩ := con_mem (p :: ps) F
      exact ⟨fun x hx => by
        obtain ⟨y, hy, e⟩ := h1 x hx
        exact ⟨y, List.mem_cons_of_mem _ hy, e⟩, fun y hy => List.mem_cons_of_mem _ (h2 y hy)⟩
def inr (a : Pq) (s : Nat) (h : List Js) : Js := if s = 0 then a.w else (h[s - 1]?).getD []
def tc (a b : Pq) : Pq :=
  ⟨a.pat ++ (con b.pat a.fs.reverse).2.2, if (con b.pat a.fs.reverse).1.length < b.src then a.pat.length + b.src - (con b.pat a.fs.reverse).1.length else a.src,
    (b.fs.reverse.map (ovf (inr a b.src (con b.pat a.fs.reverse).1)) ++ (con b.pat a.fs.reverse).2.1).reverse, mg (inr a b.src (con b.pat a.fs.reverse).1) b.w⟩
/-! the two ways to tell a product are one -/
def hitJ (F : List Fr) (i k : Nat) : Js := ((F[k - i]?).map (·.2)).getD []
theorem con_gr : ∀ (P : List Str) (F : List Fr) (i : Nat), (con P F).1 = (gr P (F.map (·.1)) i).map (hitJ F i) ∧ (con P F).2.2 = P.drop (gr P (F.map (·.1)) i).length ∧
    ((gr P (F.map (·.1)) i).length = P.length → (con P F).2.1 = match (gr P (F.map (·.1)) i).getLast? with | none => F | some k => F.drop (k + 1 - i))
  | [], F, i => by rw [con_nil, gr_nil]; exact ⟨rfl, rfl, fun _ => rfl⟩
  | p :: ps, [], i => by
    rw [con_end]
    exact ⟨rfl, rfl, fun h => (nomatch h)⟩
  | p :: ps, m :: F, i => by
    have sh : ∀ (P' : List Str), (gr P' (F.map (·.1)) (i + 1)).map (hitJ F (i + 1)) = (gr P' (F.map (·.1)) (i + 1)).map (hitJ (m :: F) i) := fun P' => List.map_congr_left fun k hk => by
      have := gr_bd _ _ _ k hk
      unfold hitJ
      rw [show k - i = (k - (i + 1)) + 1 by omega, List.getElem?_cons_succ]
    have dr : ∀ (P' : List Str) (k : Nat), (gr P' (F.map (·.1)) (i + 1)).getLast? = some k → F.drop (k + 1 - (i + 1)) = (m :: F).drop (k + 1 - i) := fun P' k hk => by
      have := gr_bd _ _ _ k (List.mem_of_getLast? hk)
      rw [show k + 1 - i = (k + 1 - (i + 1)) + 1 by omega, List.drop_succ_cons]
    rw [con_cons, List.map_cons, gr_cons]
    by_cases e : m.1 = p
    · obtain ⟨h1, h2, h3⟩ := con_gr ps F (i + 1)
      rw [if_pos e, if_pos e]
      refine ⟨?_, h2, fun hl => ?_⟩
      · show m.2 :: (con ps F).1 = _
        rw [h1, sh, List.map_cons]
        congr 1
        unfold hitJ
        rw [Nat.sub_self]
        rfl
      · rw [List.length_cons, List.length_cons] at hl
        have h3 := h3 (by omega)
        show (con ps F).2.1 = _
        rw [h3]
        cases el : (gr ps (F.map (·.1)) (i + 1)).getLast? with
        | none =>
          have en : gr ps (F.map (·.1)) (i + 1) = [] := List.getLast?_eq_none_iff.mp el
          rw [en]
          show F = (m :: F).drop (i + 1 - i)
          rw [show i + 1 - i = 1 by omega]
          rfl
        | some k =>
          rw [List.getLast?_cons, el]
          exact dr ps k el
    · obtain ⟨h1, h2, h3⟩ := con_gr (p :: ps) F (i + 1)
      rw [if_neg e, if_neg e]
      refine ⟨by rw [h1, sh], h2, fun hl => ?_⟩
      rw [h3 hl]
      cases el : (gr (p :: ps) (F.map (·.1)) (i + 1)).getLast? with
      | none =>
        rw [List.getLast?_eq_none_iff] at el
        rw [el] at hl
        cases hl
      | some k => exact dr (p :: ps) k el
theorem topF_hit (fs : List Fr) {k : Nat} (h : k < fs.length) : topF fs k = hitJ fs.reverse 0 k := by
  unfold topF hitJ
  rw [Nat.sub_zero, List.getElem?_reverse h]
section
variable {K N : List Str}
theorem tm_tc {x y : Nat} {a b : Pq} (ha : GQ K N x a) (hb : GQ K N y b) : tm a b = tc a b := by
  obtain ⟨h1, h2, h3⟩ := con_gr b.pat a.fs.reverse 0
  have es : gr b.pat (a.fs.reverse.map (·.1)) 0 = spt a b := rfl
  rw [es] at h1 h2 h3
  have hl : (con b.pat a.fs.reverse).1.length = (spt a b).length := by rw [h1, List.length_map]
  have sl := spt_len a b
  have bs := hb.gp.sl
  have ei : inr a b.src (con b.pat a.fs.reverse).1 = inn a b := by
    unfold inr inn
    split
    · rfl
    · rw [h1, List.getElem?_map]
      cases e : (spt a b)[b.src - 1]? with
      | none => rfl
      | some k =>
        show hitJ a.fs.reverse 0 k = topF a.fs k
        rw [topF_hit _ (spt_bd (List.mem_of_getElem? e))]
  unfold tm tc
  rw [ei, hl, h2, List.reverse_append, List.map_reverse, List.reverse_reverse]
  by_cases h : (spt a b).length = b.pat.length
  · have ek : (con b.pat a.fs.reverse).2.1.reverse = kep a b := by
      rw [h3 h]
      unfold kep
      cases el : (spt a b).getLast? with
      | none => exact List.reverse_reverse _
      | some k =>
        have hk := spt_bd (List.mem_of_getLast? el)
        show (a.fs.reverse.drop (k + 1 - 0)).reverse = a.fs.take (a.fs.length - 1 - k)
        rw [Nat.sub_zero, List.drop_reverse, List.reverse_reverse, show a.fs.length - (k + 1) = a.fs.length - 1 - k by omega]
    rw [if_pos h, ek, h, List.drop_length, List.append_nil, if_neg (by omega)]
  · have ek : (con b.pat a.fs.reverse).2.1 = [] := con_left _ _ (by
      rw [h2]
      intro z
      have := congrArg List.length z
      rw [List.length_drop] at this
      simp only [List.length_nil] at this
      omega)
    rw [if_neg h, ek, List.reverse_nil, List.nil_append]
end
end Q24

namespace Q24
open PySem PySem.Spec L2 PL
/-! ### products of three -/
theorem tc_eq {a b : Pq} {h : List Js} {R : List Fr} {l : List Str} (e : con b.pat a.fs.reverse = (h, R, l)) : tc a b = ⟨a.pat ++ l, if h.length < b.src then a.pat.length + b.src - h.length else a.src, (b.fs.reverse.map (ovf (inr a b.src h)) ++ R).reverse, mg (inr a b.src h) b.w⟩ := by
  unfold tc
  rw [e]
section
variable {K N : List Str}
theorem mgx {a b a' b' : Js} (ha : GJ K a) (hb : GJ K b) (ha' : GJ K a') (hb' : GJ K b') (h : ∀ s, (valD b (.inr s)).or (valD a (.inr s)) = (valD b' (.inr s)).or (valD a' (.inr s))) : mg a b = mg a' b' :=
  sortK_same (pairsOf_congr (merge_facts ha.1 hb.1).1 (merge_facts ha'.1 hb'.1).1 fun s => by rw [valD_merge _ _ _ hb.1.2, valD_merge _ _ _ hb'.1.2, h])
theorem mg_assoc {a b c : Js} (ha : GJ K a) (hb : GJ K b) (hc : GJ K c) : mg (mg a b) c = mg a (mg b c) := mgx (ha.merge hb).1 hc ha (hb.merge hc).1 fun s => by
  rw [mg_val ha hb, mg_val hb hc]
  cases valD c (.inr s) <;> rfl
theorem mg_nil_in {k x : Js} (hk : GJ K k) (hx : GJ K x) : mg k x = mg k (mg [] x) := mgx hk hx hk (GJ.nil.merge hx).1 fun s => by
  rw [mg_val GJ.nil hx]
  cases valD x (.inr s) <;> rfl
theorem inr_gj {a : Pq} {s : Nat} {h : List Js} (ha : GJ K a.w) (hh : ∀ x ∈ h, GJ K x) : GJ K (inr a s h) := by
  unfold inr
  split
  · exact ha
  · cases e : h[s - 1]? with
    | none => exact GJ.nil
    | some y => exact hh y (List.mem_of_getElem? e)
theorem tc_assoc {x y z : Nat} {a b c : Pq} (ha : GQ K N x a) (hb : GQ K N y b) (hc : GQ K N z c) : tc (tc a b) c = tc a (tc b c) := by
  obtain ⟨h1, R1, l1, e1⟩ : ∃ h R l, con b.pat a.fs.reverse = (h, R, l) := ⟨_, _, _, rfl⟩
  obtain ⟨h2, R2, l2, e2⟩ : ∃ h R l, con c.pat b.fs.reverse = (h, R, l) := ⟨_, _, _, rfl⟩
  obtain ⟨h3, R3, l3, e3⟩ : ∃ h R l, con l2 R1 = (h, R, l) := ⟨_, _, _, rfl⟩
  have n1 : h1.length + l1.length = b.pat.length := by have := con_len b.pat a.fs.reverse; rw [e1] at this; exact this
  have n2 : h2.length + l2.length = c.pat.length := by have := con_len c.pat b.fs.reverse; rw [e2] at this; exact this
  have f1 : l1 ≠ [] → R1 = [] := by have := con_left b.pat a.fs.reverse; rw [e1] at this; exact this
  have f2 : l2 ≠ [] → R2 = [] := by have := con_left c.pat b.fs.reverse; rw [e2] at this; exact this
  have f3 : l1 = [] ∨ h3 = [] := by
    by_cases q : l1 = []
    · exact .inl q
    · rw [f1 q, con_end] at e3
      injection e3 with e3 _
      exact .inr e3.symm
  have ga : ∀ m ∈ a.fs.reverse, GJ K m.2 := fun m hm => (ha.gp.gf m (List.mem_reverse.mp hm)).2
  have gb : ∀ m ∈ b.fs.reverse, GJ K m.2 := fun m hm => (hb.gp.gf m (List.mem_reverse.mp hm)).2
  have g1 : ∀ u ∈ h1, GJ K u := fun u hu => by
    have := (con_mem b.pat a.fs.reverse).1
    rw [e1] at this
    obtain ⟨m, hm, rfl⟩ := this u hu
    exact ga m hm
  have g2 : ∀ u ∈ h2, GJ K u := fun u hu => by
    have := (con_mem c.pat b.fs.reverse).1
    rw [e2] at this
    obtain ⟨m, hm, rfl⟩ := this u hu
    exact gb m hm
  have gR : ∀ m ∈ R1, GJ K m.2 := fun m hm => by
    have := (con_mem b.pat a.fs.reverse).2
    rw [e1] at this
    exact ga m (this m hm)
  have g3 : ∀ u ∈ h3, GJ K u := fun u hu => by
    have := (con_mem l2 R1).1
    rw [e3] at this
    obtain ⟨m, hm, rfl⟩ := this u hu
    exact gR m hm
  have i1g : GJ K (inr a b.src h1) := inr_gj ha.gp.gw g1
  have sb := hb.gp.sl
  have sc := hc.gp.sl
  have tab := tc_eq e1
  have tbc := tc_eq e2
  have hAB : con c.pat (tc a b).fs.reverse = (h2.map (mg (inr a b.src h1)) ++ h3, R2.map (ovf (inr a b.src h1)) ++ R3, l3) := by
    rw [tab]
    show con c.pat (b.fs.reverse.map (ovf (inr a b.src h1)) ++ R1).reverse.reverse = _
    rw [List.reverse_reverse, con_app, con_map, e2]
    show (h2.map (mg (inr a b.src h1)) ++ (con l2 R1).1, R2.map (ovf (inr a b.src h1)) ++ (con l2 R1).2.1, (con l2 R1).2.2) = _
    rw [e3]
  have hBC : con (tc b c).pat a.fs.reverse = (h1 ++ h3, R3, l1 ++ l3) := by
    rw [tbc]
    show con (b.pat ++ l2) a.fs.reverse = _
    rw [con_pat, e1]
    show (h1 ++ (con l2 R1).1, (con l2 R1).2.1, l1 ++ (con l2 R1).2.2) = _
    rw [e3]
  rw [tc_eq hAB, tc_eq hBC]
  have k1 : inr a b.src (h1 ++ h3) = inr a b.src h1 := by
    unfold inr
    split
    · rfl
    · rcases f3 with q | q
      · rw [q] at n1
        simp only [List.length_nil] at n1
        rw [List.getElem?_append_left (by omega)]
      · rw [q, List.append_nil]
  -- the two inner maps
  have key : (∀ u, GJ K u → mg (inr (tc a b) c.src (h2.map (mg (inr a b.src h1)) ++ h3)) u = mg (inr a (tc b c).src (h1 ++ h3)) (mg (inr b c.src h2) u)) ∧ R2.map (ovf (inr a b.src h1)) = R2.map (ovf (inr a (tc b c).src (h1 ++ h3))) := by
    have es : (tc b c).src = if h2.length < c.src then b.pat.length + c.src - h2.length else b.src := by rw [tbc]
    by_cases q : h2.length < c.src
    · rw [if_pos q] at es
      have hl2 : l2 ≠ [] := fun w => by rw [w] at n2; simp only [List.length_nil] at n2; omega
      have ei : inr b c.src h2 = [] := by
        unfold inr
        rw [if_neg (by omega), List.getElem?_eq_none (by omega)]
        rfl
      have ej : inr (tc a b) c.src (h2.map (mg (inr a b.src h1)) ++ h3) = (h3[c.src - 1 - h2.length]?).getD [] := by
        unfold inr
        rw [if_neg (by omega), List.getElem?_append_right (by rw [List.length_map]; omega), List.length_map]
      have ek : inr a (tc b c).src (h1 ++ h3) = (h3[c.src - 1 - h2.length]?).getD [] := by
        rw [es]
        unfold inr
        rw [if_neg (by omega)]
        rcases f3 with w | w
        · rw [w] at n1
          simp only [List.length_nil] at n1
          rw [List.getElem?_append_right (by omega), show b.pat.length + c.src - h2.length - 1 - h1.length = c.src - 1 - h2.length by omega]
        · rw [w, List.append_nil, List.getElem?_eq_none (by omega)]
          rfl
      have gk : GJ K ((h3[c.src - 1 - h2.length]?).getD []) := by
        cases e : h3[c.src - 1 - h2.length]? with
        | none => exact GJ.nil
        | some v => exact g3 v (List.mem_of_getElem? e)
      rw [ej, ek, ei, f2 hl2]
      exact ⟨fun u hu => mg_nil_in gk hu, rfl⟩
    · rw [if_neg q] at es
      rw [es, k1]
      refine ⟨fun u hu => ?_, rfl⟩
      by_cases w : c.src = 0
      · have ej : inr (tc a b) c.src (h2.map (mg (inr a b.src h1)) ++ h3) = mg (inr a b.src h1) b.w := by
          rw [tab]
          exact if_pos w
        have ei : inr b c.src h2 = b.w := if_pos w
        rw [ej, ei, mg_assoc i1g hb.gp.gw hu]
      · have hlt : c.src - 1 < h2.length := by omega
        have ej : inr (tc a b) c.src (h2.map (mg (inr a b.src h1)) ++ h3) = mg (inr a b.src h1) h2[c.src - 1] := by
          unfold inr
          rw [if_neg w, List.getElem?_append_left (by rw [List.length_map]; exact hlt), List.getElem?_map, List.getElem?_eq_getElem hlt]
          rfl
        have ei : inr b c.src h2 = h2[c.src - 1] := by
          unfold inr
          rw [if_neg w, List.getElem?_eq_getElem hlt]
          rfl
        rw [ej, ei, mg_assoc i1g (g2 _ (List.getElem_mem hlt)) hu]
  obtain ⟨k2, k3⟩ := key
  have ep : (tc a b).pat ++ l3 = a.pat ++ (l1 ++ l3) := by rw [tab]; exact List.append_assoc _ _ _
  have ew : mg (inr (tc a b) c.src (h2.map (mg (inr a b.src h1)) ++ h3)) c.w = mg (inr a (tc b c).src (h1 ++ h3)) (tc b c).w := by
    rw [k2 _ hc.gp.gw]
    conv => rhs; rw [show (tc b c).w = mg (inr b c.src h2) c.w by rw [tbc]]
  have ef : c.fs.reverse.map (ovf (inr (tc a b) c.src (h2.map (mg (inr a b.src h1)) ++ h3))) ++ (R2.map (ovf (inr a b.src h1)) ++ R3) = (tc b c).fs.reverse.map (ovf (inr a (tc b c).src (h1 ++ h3))) ++ R3 := by
    have e0 : (tc b c).fs.reverse = c.fs.reverse.map (ovf (inr b c.src h2)) ++ R2 := by rw [tbc]; exact List.reverse_reverse _
    rw [e0, List.map_append, List.map_map, k3, List.append_assoc]
    congr 1
    refine List.map_congr_left fun m hm => ?_
    show ((m.1, mg _ m.2) : Fr) = (m.1, mg _ (mg _ m.2))
    rw [k2 _ (hc.gp.gf m (List.mem_reverse.mp hm)).2]
  have eS : (if (h2.map (mg (inr a b.src h1)) ++ h3).length < c.src then (tc a b).pat.length + c.src - (h2.map (mg (inr a b.src h1)) ++ h3).length else (tc a b).src) = if (h1 ++ h3).length < (tc b c).src then a.pat.length + (tc b c).src - (h1 ++ h3).length else a.src := by
    have s1 : (tc a b).src = if h1.length < b.src then a.pat.length + b.src - h1.length else a.src := by rw [tab]
    have s2 : (tc b c).src = if h2.length < c.src then b.pat.length + c.src - h2.length else b.src := by rw [tbc]
    have s3 : (tc a b).pat.length = a.pat.length + l1.length := by rw [tab]; exact List.length_append
    have s4 : l1.length = 0 ∨ h3.length = 0 := f3.elim (fun q => .inl (by rw [q]; rfl)) fun q => .inr (by rw [q]; rfl)
    rw [s1, s2, s3]
    simp only [List.length_append, List.length_map]
    repeat' split
    all_goals omega
  rw [ep, ew, ef, eS]
end
end Q24

namespace Q24
open PySem PySem.Spec L2 PL
/-! ### plans of scripts are products of single commands -/
section
variable {K N : List Str}
theorem RL.uniq {v w : D → Bool} {K' N' : List Str} : ∀ {xs ys : List D} {r : Rp}, RL v K N xs r → RL w K' N' ys r → xs = ys
  | [], ys, r, h, h2 => by
    have h : r = [] := h
    subst h
    have := h2.len
    exact (List.eq_nil_of_length_eq_zero this).symm
  | x :: xs, ys, _, h, h2 => by
    obtain ⟨m, r', rfl, ⟨_, t, ht, rfl⟩, h⟩ := h
    cases ys with
    | nil => exact nomatch (show m :: r' = [] from h2)
    | cons y ys =>
      obtain ⟨m2, r2, e, ⟨_, t2, ht2, rfl⟩, h2⟩ := h2
      obtain ⟨e1, e2⟩ := List.cons.inj e
      subst e1 e2
      rw [ht.uniq ht2, RL.uniq h h2]
theorem RQ.uniq {d d' : D} {p : Prt} (h : RQ K N d p) (h' : RQ K N d' p) : d = d' := by
  obtain ⟨xs, w, hx, hw, _, rfl⟩ := h
  obtain ⟨ys, w', hy, hw', _, rfl⟩ := h'
  rw [hx.uniq hy, hw.uniq hw']
def ab (q : Pq) : Prt := ⟨q.pat, q.src, (q.fs.map frM).reverse, toF q.w⟩
theorem rq_of {x : Nat} {q : Pq} (h : GQ K N x q) : RQ K N (dq q) (ab q) := by
  refine ⟨(q.fs.map frD).reverse, .tup (pairsOf q.w), (RL_of h.gp.gf).rev, h.gp.gw.rf, h.gp.pn, ?_⟩
  rw [List.reverse_reverse]
  rfl
theorem toF_mg {a b : Js} (ha : GJ K a) (hb : GJ K b) : toF (mg a b) = ovr (toF a) (toF b) := funext fun s => mg_val ha hb s
theorem toF_nil : toF [] = nilF := rfl
theorem ovr_nil (f : Fm) : ovr f nilF = f := funext fun s => Option.none_or
theorem toF_one (k : Str) (x : D) : toF [(.inr k, x)] = oneF k x := funext fun s => by
  show valD [(Sum.inr k, x)] (.inr s) = _
  rw [valD_cons]
  unfold oneF
  by_cases h : s = k
  · rw [if_pos h, if_pos (by rw [h])]
  · rw [if_neg h, if_neg fun z => h (Sum.inr.inj z).symm]; rfl
theorem cut_con (n : Str) : ∀ F : List Fr, match cut n (F.map frM) with
    | none => con [n] F = ([], [], [n])
    | some z => ∃ j R, con [n] F = ([j], R, []) ∧ z = (toF j, R.map frM) ∧ ∃ m ∈ F, m.2 = j
  | [] => con_end _
  | m :: F => by
    rw [List.map_cons, con_cons]
    show match (if (frM m).1 = n then some ((frM m).2, F.map frM) else cut n (F.map frM)) with | none => _ | some z => _
    by_cases e : m.1 = n
    · rw [if_pos (show (frM m).1 = n from e), if_pos e, con_nil]
      exact ⟨m.2, F, rfl, rfl, m, List.mem_cons_self, rfl⟩
    · rw [if_neg (show ¬ (frM m).1 = n from e), if_neg e]
      have ih := cut_con n F
      cases ec : cut n (F.map frM) with
      | none => rw [ec] at ih; exact ih
      | some z =>
        rw [ec] at ih
        obtain ⟨j, R, e1, e2, y, hy, e3⟩ := ih
        exact ⟨j, R, e1, e2, y, List.mem_cons_of_mem _ hy, e3⟩
theorem ab_fr (q : Pq) : (ab q).fr = q.fs.reverse.map frM := by
  show (q.fs.map frM).reverse = _
  rw [List.map_reverse]
theorem mg_e {a : Js} (ha : GJ K a) : toF (mg a []) = toF a := by rw [toF_mg ha GJ.nil, toF_nil, ovr_nil]
theorem ab_ext {x : Nat} {a : Pq} (ha : GQ K N x a) {c : Cd} (hc : CdOk K N c) : ab (tc a (sgl c)) = ext (ab a) c := by
  have gw := ha.gp.gw
  cases c with
  | wr k y =>
    obtain ⟨hk, hx⟩ := hc
    have hv : vg true y = true := by
      rcases hx with rfl | hx
      · rfl
      · exact num_vg _ hx
    obtain ⟨h1, _⟩ := one_map (ha.gp.kn.kw k hk) hv
    have g1 : GJ K [(.inr k, y)] := ⟨h1, fun s hs => by
      have : s ∈ [k] := hs
      rw [List.mem_singleton.mp this]; exact hk⟩
    rw [tc_eq (b := sgl (.wr k y)) (con_nil _)]
    show (⟨a.pat ++ [], a.src, (([] ++ a.fs.reverse).reverse.map frM).reverse, toF (mg a.w [(.inr k, y)])⟩ : Prt) = ⟨a.pat, a.src, (a.fs.map frM).reverse, ovr (toF a.w) (oneF k y)⟩
    rw [List.append_nil, List.nil_append, List.reverse_reverse, toF_mg gw g1, toF_one]
  | mark n =>
    rw [tc_eq (b := sgl (.mark n)) (con_nil _)]
    show (⟨a.pat ++ [], a.src, (([(n, mg a.w [])] ++ a.fs.reverse).reverse.map frM).reverse, toF (mg a.w [])⟩ : Prt) = ⟨a.pat, a.src, (n, toF a.w) :: (a.fs.map frM).reverse, toF a.w⟩
    rw [List.append_nil, List.map_reverse, List.reverse_reverse, List.map_append, List.map_reverse, mg_e gw]
    show (⟨a.pat, a.src, (n, toF (mg a.w [])) :: (a.fs.map frM).reverse, toF a.w⟩ : Prt) = _
    rw [mg_e gw]
  | back n =>
    have hq := cut_con n a.fs.reverse
    have ef := ab_fr a
    cases e : cut n (ab a).fr with
    | none =>
      rw [ef] at e
      rw [e] at hq
      rw [ext_back0 (by rw [ef]; exact e), tc_eq (b := sgl (.back n)) hq]
      show (⟨a.pat ++ [n], a.pat.length + 1 - 0, [(n, toF (mg [] []))], toF (mg [] [])⟩ : Prt) = ⟨a.pat ++ [n], a.pat.length + 1, [(n, nilF)], nilF⟩
      rw [mg_e (K := K) GJ.nil]
      rfl
    | some z =>
      rw [ext_back1 e]
      rw [ef] at e
      rw [e] at hq
      obtain ⟨j, R, e1, rfl, m, hm, rfl⟩ := hq
      have gj := (ha.gp.gf m (List.mem_reverse.mp hm)).2
      rw [tc_eq (b := sgl (.back n)) e1]
      show (⟨a.pat ++ [], a.src, (([(n, mg m.2 [])] ++ R).reverse.map frM).reverse, toF (mg m.2 [])⟩ : Prt) = ⟨a.pat, a.src, (n, toF m.2) :: R.map frM, toF m.2⟩
      rw [List.append_nil, List.map_reverse, List.reverse_reverse, List.map_append, mg_e gj]
      show (⟨a.pat, a.src, (n, toF (mg m.2 [])) :: R.map frM, toF m.2⟩ : Prt) = _
      rw [mg_e gj]
  | keep n =>
    have hq := cut_con n a.fs.reverse
    have ef := ab_fr a
    cases e : cut n (ab a).fr with
    | none =>
      rw [ef] at e
      rw [e] at hq
      rw [ext_keep0 (by rw [ef]; exact e), tc_eq (b := sgl (.keep n)) hq]
      show (⟨a.pat ++ [n], a.src, [], toF (mg a.w [])⟩ : Prt) = ⟨a.pat ++ [n], a.src, [], toF a.w⟩
      rw [mg_e gw]
    | some z =>
      rw [ext_keep1 e]
      rw [ef] at e
      rw [e] at hq
      obtain ⟨j, R, e1, rfl, m, hm, rfl⟩ := hq
      rw [tc_eq (b := sgl (.keep n)) e1]
      show (⟨a.pat ++ [], a.src, (([] ++ R).reverse.map frM).reverse, toF (mg a.w [])⟩ : Prt) = ⟨a.pat, a.src, R.map frM, toF a.w⟩
      rw [List.append_nil, List.nil_append, List.map_reverse, List.reverse_reverse, mg_e gw]
theorem sgl_gq (h : Kn K N) {c : Cd} (hc : CdOk K N c) : GQ K N 1 (sgl c) := by
  have n0 : ∀ {n : Str}, n ∈ N → ∀ m ∈ [n], m ∈ N := fun hn m hm => by rw [List.mem_singleton.mp hm]; exact hn
  have f0 : ∀ {n : Str}, n ∈ N → GF K N [(n, [])] := fun hn m hm => by rw [List.mem_singleton.mp hm]; exact ⟨hn, GJ.nil⟩
  have u1 : ∀ n : Str, Up [(n, [])] [] := fun n => List.pairwise_cons.mpr ⟨fun b _ s hs => (nomatch hs), List.pairwise_singleton _ _⟩
  cases c with
  | wr k x =>
    obtain ⟨hk, hx⟩ := hc
    have hv : vg true x = true := by
      rcases hx with rfl | hx
      · rfl
      · exact num_vg _ hx
    obtain ⟨h1, _⟩ := one_map (h.kw k hk) hv
    have gw : GJ K [(.inr k, x)] := ⟨h1, fun s hs => by
      have : s ∈ [k] := hs
      rw [List.mem_singleton.mp this]; exact hk⟩
    exact ⟨⟨h, fun _ hn => (nomatch hn), Nat.le_refl 0, fun _ hm => (nomatch hm), gw, Nat.zero_le _, Nat.zero_le _⟩, List.pairwise_singleton _ _, Nat.zero_le _, Nat.zero_le _⟩
  | mark n =>
    have hn : n ∈ N := hc
    exact ⟨⟨h, fun _ hn => (nomatch hn), Nat.le_refl 0, f0 hn, GJ.nil, Nat.zero_le _, (by show 1 ≤ 400; decide)⟩, u1 n, Nat.zero_le _, Nat.le_refl 1⟩
  | back n =>
    have hn : n ∈ N := hc
    exact ⟨⟨h, n0 hn, Nat.le_refl 1, f0 hn, GJ.nil, (by show 1 ≤ 400; decide), (by show 1 ≤ 400; decide)⟩, u1 n, Nat.le_refl 1, Nat.le_refl 1⟩
  | keep n =>
    have hn : n ∈ N := hc
    exact ⟨⟨h, n0 hn, Nat.zero_le 1, fun _ hm => (nomatch hm), GJ.nil, (by show 1 ≤ 400; decide), Nat.zero_le _⟩, List.pairwise_singleton _ _, Nat.le_refl 1, Nat.zero_le _⟩
theorem cq_tm {x y : Nat} {a b : Pq} (ha : GQ K N x a) (hb : GQ K N y b) (hc : Cq a) : Cq (tm a b) := by
  rw [tm_tc ha hb]
  have hm := con_mem b.pat a.fs.reverse
  have gi : GJ K (inr a b.src (con b.pat a.fs.reverse).1) := inr_gj ha.gp.gw fun u hu => by
    obtain ⟨m, h, rfl⟩ := hm.1 u hu
    exact (ha.gp.gf m (List.mem_reverse.mp h)).2
  refine ⟨fun m h => ?_, mg_srt gi hb.gp.gw⟩
  rcases List.mem_append.mp (List.mem_reverse.mp h) with h | h
  · obtain ⟨m, h2, rfl⟩ := List.mem_map.mp h
    exact mg_srt gi (hb.gp.gf m (List.mem_reverse.mp h2)).2
  · exact hc.1 m (List.mem_reverse.mp (hm.2 m h))
theorem cq_em : Cq em := ⟨fun _ hm => (nomatch hm), sortK_e⟩
theorem tm_emr {x : Nat} {a : Pq} (ha : GQ K N x a) (hc : Cq a) : tm a em = a := by
  rw [tm_tc ha (em_ok ha.gp.kn), tc_eq (b := em) (con_nil _)]
  show (⟨a.pat ++ [], a.src, ([] ++ a.fs.reverse).reverse, mg a.w []⟩ : Pq) = a
  rw [List.append_nil, List.nil_append, List.reverse_reverse, show mg a.w [] = sortK a.w from rfl, hc.2]
theorem tm_assoc {x y z u v : Nat} {a b c : Pq} (ha : GQ K N x a) (hb : GQ K N y b) (hc : GQ K N z c) (hab : GQ K N u (tm a b)) (hbc : GQ K N v (tm b c)) : tm (tm a b) c = tm a (tm b c) := by
  rw [tm_tc hab hc, tm_tc ha hbc, tm_tc ha hb, tm_tc hb hc]
  exact tc_assoc ha hb hc
def ptq (cs : List Cd) : Pq := (cs.map sgl).foldl tm em
theorem ptq_snoc (cs : List Cd) (c : Cd) : ptq (cs ++ [c]) = tm (ptq cs) (sgl c) := by
  unfold ptq
  rw [List.map_append, List.foldl_append]
  rfl
theorem ptq_ok (h : Kn K N) {cs : List Cd} (hc : ∀ c ∈ cs, CdOk K N c) (hl : cs.length ≤ 400) : GQ K N cs.length (ptq cs) ∧ Cq (ptq cs) ∧ ab (ptq cs) = cs.foldl ext emp := by
  have key : ∀ rs : List Cd, (∀ c ∈ rs, CdOk K N c) → rs.length ≤ 400 → GQ K N rs.length (ptq rs.reverse) ∧ Cq (ptq rs.reverse) ∧ ab (ptq rs.reverse) = rs.reverse.foldl ext emp := fun rs => by
    induction rs with
    | nil => exact fun _ _ => ⟨em_ok h, cq_em, rfl⟩
    | cons c rs ih =>
      intro hc hl
      rw [List.length_cons] at hl
      obtain ⟨h1, h2, h3⟩ := ih (fun d hd => hc d (List.mem_cons_of_mem _ hd)) (by omega)
      have hs := sgl_gq h (hc c List.mem_cons_self)
      rw [List.reverse_cons, ptq_snoc, List.foldl_append]
      refine ⟨tm_ok h1 hs hl, cq_tm h1 hs h2, ?_⟩
      rw [tm_tc h1 hs, ab_ext h1 (hc c List.mem_cons_self), h3]
      rfl
  have := key cs.reverse (fun c hm => hc c (List.mem_reverse.mp hm)) (by rw [List.length_reverse]; exact hl)
  rw [List.reverse_reverse, List.length_reverse] at this
  exact this
theorem of_eq24 (h : Kn K N) {cs : List Cd} (hc : ∀ c ∈ cs, CdOk K N c) (hl : cs.length ≤ 60) : d_Plan_of (.lst (cs.map cmdD)) = ret (plD' (dq (ptq cs))) := by
  obtain ⟨d, e, hr⟩ := of_ok h hc hl (.inl rfl)
  obtain ⟨g, _, ha⟩ := ptq_ok h hc (by omega)
  have hr2 := rq_of g
  rw [ha] at hr2
  rw [e, hr.uniq hr2]
theorem ptq_app (h : Kn K N) {cs : List Cd} (hc : ∀ c ∈ cs, CdOk K N c) : ∀ ds : List Cd, (∀ c ∈ ds, CdOk K N c) → cs.length + ds.length ≤ 400 → ptq (cs ++ ds.reverse) = tm (ptq cs) (ptq ds.reverse)
  | [], _, hl => by
    obtain ⟨g, gc, _⟩ := ptq_ok h hc (by omega)
    rw [List.reverse_nil, List.append_nil]
    exact (tm_emr g gc).symm
  | d :: ds, hd, hl => by
    rw [List.length_cons] at hl
    have hd' := fun c hm => hd c (List.mem_cons_of_mem _ hm)
    have hdr : ∀ c ∈ ds.reverse, CdOk K N c := fun c hm => hd' c (List.mem_reverse.mp hm)
    have ih := ptq_app h hc ds hd' (by omega)
    obtain ⟨g1, _, _⟩ := ptq_ok h hc (by omega)
    obtain ⟨g2, _, _⟩ := ptq_ok h hdr (by rw [List.length_reverse]; omega)
    have gs := sgl_gq h (hd d List.mem_cons_self)
    rw [List.length_reverse] at g2
    rw [List.reverse_cons, ← List.append_assoc, ptq_snoc, ptq_snoc, ih]
    exact tm_assoc g1 g2 gs (tm_ok g1 g2 (by omega)) (tm_ok g2 gs (by omega))
end
end Q24

namespace Q24
open PySem PySem.Spec L2 PL
/-! ### powers add and multiply -/
section
variable {K N : List Str}
theorem pw_okx {x : Nat} {q : Pq} (hq : GQ K N x q) (hc : Cq q) : ∀ t : Nat, x * t ≤ 400 → GQ K N (x * t) (pw q t) ∧ Cq (pw q t)
  | 0, _ => ⟨em_ok hq.gp.kn, cq_em⟩
  | t + 1, h => by
    rw [Nat.mul_succ] at h
    obtain ⟨h1, h2⟩ := pw_okx hq hc t (by omega)
    rw [← pw_succ hq hc t, Nat.mul_succ]
    exact ⟨tm_ok h1 hq h, cq_tm h1 hq h2⟩
def Vp (K N : List Str) (q : Pq) : Prop := (∃ x, GQ K N x q) ∧ Cq q
theorem pw_add {x : Nat} {q : Pq} (hq : GQ K N x q) (hc : Cq q) (s : Nat) : ∀ t : Nat, (∀ i ≤ s + t, Vp K N (pw q i)) → tm (pw q s) (pw q t) = pw q (s + t)
  | 0, hv => by
    obtain ⟨⟨_, g⟩, c⟩ := hv s (by omega)
    exact tm_emr g c
  | t + 1, hv => by
    obtain ⟨⟨_, g1⟩, _⟩ := hv s (by omega)
    obtain ⟨⟨_, g2⟩, _⟩ := hv t (by omega)
    obtain ⟨⟨_, g3⟩, _⟩ := hv (t + 1) (by omega)
    obtain ⟨⟨_, g4⟩, _⟩ := hv (s + t) (by omega)
    have ih := pw_add hq hc s t fun i hi => hv i (by omega)
    have e3 := pw_succ hq hc t
    rw [← e3, ← tm_assoc g1 g2 hq (by rw [ih]; exact g4) (by rw [e3]; exact g3), ih, pw_succ hq hc (s + t)]
    rfl
theorem pw_mul {x : Nat} {q : Pq} (hq : GQ K N x q) (hc : Cq q) (s : Nat) : ∀ t : Nat, (∀ i ≤ s * t + s, Vp K N (pw q i)) → pw (pw q s) t = pw q (s * t)
  | 0, _ => rfl
  | t + 1, hv => by
    obtain ⟨⟨_, g1⟩, c1⟩ := hv s (by omega)
    rw [Nat.mul_succ] at hv ⊢
    have ih := pw_mul hq hc s t fun i hi => hv i (by omega)
    rw [← pw_succ g1 c1 t, ih]
    exact pw_add hq hc (s * t) s fun i hi => hv i (by omega)
/-! plans that need and leave no more -/
def Sdy (q : Pq) : Prop := (con q.pat q.fs.reverse).2 = ([], [])
theorem sdy_eq {x : Nat} {q : Pq} (hq : GQ K N x q) (h : Sdy q) : (spt q q).length = q.pat.length ∧ kpt q = [] ∧ mor q = [] := by
  obtain ⟨_, h2, h3⟩ := con_gr q.pat q.fs.reverse 0
  have es : gr q.pat (q.fs.reverse.map (·.1)) 0 = spt q q := rfl
  rw [es] at h2 h3
  unfold Sdy at h
  have hl : (con q.pat q.fs.reverse).2.2 = [] := by rw [h]
  have hr : (con q.pat q.fs.reverse).2.1 = [] := by rw [h]
  rw [h2] at hl
  have sl := spt_len q q
  have e : (spt q q).length = q.pat.length := by
    have := congrArg List.length hl
    rw [List.length_drop] at this
    simp only [List.length_nil] at this
    omega
  refine ⟨e, ?_, hl⟩
  have h3 := h3 e
  rw [hr] at h3
  unfold kpt
  rw [if_pos e]
  unfold kep
  cases el : (spt q q).getLast? with
  | none =>
    rw [el] at h3
    have h3 : [] = q.fs.reverse := h3
    show q.fs = []
    rw [← List.reverse_reverse q.fs, ← h3]
    rfl
  | some k =>
    rw [el] at h3
    have h3 : [] = q.fs.reverse.drop (k + 1 - 0) := h3
    have hk := spt_bd (List.mem_of_getLast? el)
    show q.fs.take (q.fs.length - 1 - k) = []
    have := congrArg List.length h3
    rw [List.length_drop, List.length_reverse] at this
    simp only [List.length_nil] at this
    rw [show q.fs.length - 1 - k = 0 by omega, List.take_zero]
theorem rpt_nil {α : Type} (n : Nat) : rpt n ([] : List α) = [] := by
  unfold rpt
  simp
theorem sdy_pw {x : Nat} {q : Pq} (hq : GQ K N x q) (h : Sdy q) (n : Nat) : pw q (n + 2) = ⟨q.pat, q.src, q.fs.map (ovf (inq q)), mg (inq q) q.w⟩ := by
  obtain ⟨e, e2, _⟩ := sdy_eq hq h
  rw [pw_full e, e2, List.map_nil, rpt_nil]
  rfl
theorem sdy_two {x : Nat} {q : Pq} (hq : GQ K N x q) (h : Sdy q) (n : Nat) : pw q (n + 2) = pw q 2 := by rw [sdy_pw hq h n, sdy_pw hq h 0]
theorem sdy_all {x : Nat} {q : Pq} (hq : GQ K N x q) (hc : Cq q) (h : Sdy q) (hx : 2 * x ≤ 400) : ∀ t : Nat, GQ K N (2 * x) (pw q t) ∧ Cq (pw q t) ∧ Sdy (pw q t)
  | 0 => ⟨(em_ok hq.gp.kn).mono (Nat.zero_le _), cq_em, by show (con [] []).2 = _; rfl⟩
  | 1 => ⟨hq.mono (by omega), hc, h⟩
  | n + 2 => by
    obtain ⟨g, c⟩ := pw_okx hq hc 2 (by omega)
    rw [sdy_two hq h n]
    refine ⟨by rw [Nat.mul_comm] at g; exact g, c, ?_⟩
    rw [sdy_pw hq h 0]
    show (con q.pat (q.fs.map (ovf (inq q))).reverse).2 = _
    unfold Sdy at h
    rw [← List.map_reverse, con_map, h]
    rfl
/-! ### the program's powers -/
end
theorem at_pat (q : Pq) : insIs (Str.ofString "Plan") (Str.ofString "own_parts") (plD' (dq q)) (quiet (cl (d_Plan_pattern (plD' (dq q))))) = ret (.tup (q.pat.map .str)) := by
  rw [ins_own]
  exact (pt_eq _ _ _ _).1
theorem at_src (q : Pq) : insIs (Str.ofString "Plan") (Str.ofString "own_parts") (plD' (dq q)) (quiet (cl (d_Plan_source (plD' (dq q))))) = ret (.int (q.src : Int)) := by
  rw [ins_own]
  exact (pt_eq _ _ _ _).2.1
theorem at_fr (q : Pq) : insIs (Str.ofString "Plan") (Str.ofString "own_parts") (plD' (dq q)) (quiet (cl (d_Plan_frames (plD' (dq q))))) = ret (.tup (q.fs.map frD)) := by
  rw [ins_own]
  exact (pt_eq _ _ _ _).2.2.1
theorem at_wr (q : Pq) : insIs (Str.ofString "Plan") (Str.ofString "own_parts") (plD' (dq q)) (quiet (cl (d_Plan_writes (plD' (dq q))))) = ret (.tup (pairsOf q.w)) := by
  rw [ins_own]
  exact (pt_eq _ _ _ _).2.2.2
theorem need_times_ok {t : Nat} (h : t ≤ 100000000000000000000000000000000000000000000000000) : d_need_times (.int (t : Int)) = ret .non := by
  unfold d_need_times d_is_between
  rw [is_integer_eq]
  simp only [cl_ret, andD_t, leD_int, thenB_bl, bnd_ret, tru_bl]
  rw [decide_eq_true (by omega : (0 : Int) ≤ (t : Int)), decide_eq_true (by omega : (t : Int) ≤ 100000000000000000000000000000000000000000000000000)]
  rfl
section
variable {K N : List Str}
theorem kept_eq {x : Nat} {q : Pq} (hq : GQ K N x q) : d_frames_kept (plD' (dq q)) (.lst ((spt q q).map (pk q.fs.length))) = ret (.tup ((kpt q).map frD)) := by
  have sl := spt_len q q
  unfold d_frames_kept kpt
  rw [at_pat, at_fr, lenI_lst, bnd_ret, bnd_ret, lenI_tup, bnd_ret, bnd_ret, List.length_map, List.length_map, bnd_ret]
  by_cases h : (spt q q).length = q.pat.length
  · rw [decide_eq_false (by omega : ¬ ((spt q q).length : Int) < (q.pat.length : Int)), if_neg (by decide), if_pos h]
    by_cases hz : spt q q = []
    · rw [decide_eq_true (by rw [hz]; rfl : ((spt q q).length : Int) = 0), if_pos rfl, kep_none hz]
    · have hp : 0 < (spt q q).length := List.length_pos_iff.mpr hz
      have hne : (spt q q).map (pk q.fs.length) ≠ [] := by simpa using hz
      have hlt := spt_bd (List.getLast_mem hz)
      rw [decide_eq_false (by omega : ¬ ((spt q q).length : Int) = 0), if_neg (by decide), bnd_ret, ix_lastL hne, bnd_ret, List.getLast_map, intI_pk, bnd_ret, sl_fr _ _ hlt, kep_some hz]
  · rw [decide_eq_true (by omega : ((spt q q).length : Int) < (q.pat.length : Int)), if_pos rfl, if_neg h]
    rfl
theorem inner_of_eq (q : Pq) : d_inner_of (plD' (dq q)) (.lst ((spt q q).map (pk q.fs.length))) = ret (.tup (pairsOf (inq q))) := by
  unfold d_inner_of
  rw [at_pat, at_src, at_fr, at_wr, bnd_ret, bnd_ret, bnd_ret, bnd_ret, bnd_ret]
  show cl (d_inner_map (dq q) _ _) = _
  rw [inner_eq, cl_ret]
  rfl
theorem repT_ok {xs : List D} {n : Nat} (h : n ≤ 1000) (hl : xs.length ≤ 1000) : PL.repT (.tup xs) (.int (n : Int)) = ret (.tup (rpt n xs)) := by
  show grd _ _ = _
  rw [grd_pos ⟨by omega, by omega, hl⟩]
  unfold repL rpt
  rw [Int.toNat_natCast]
theorem kpt_gf {x : Nat} {q : Pq} (hq : GQ K N x q) : GF K N (kpt q) ∧ (kpt q).length ≤ x := by
  have := kep_len q q
  have := hq.fl
  unfold kpt
  split
  · exact ⟨fun m hm => hq.gp.gf m (kep_sub q q m hm), by omega⟩
  · exact ⟨fun m hm => (nomatch hm), Nat.zero_le _⟩
open Classical in
theorem copies_eq {x : Nat} {q : Pq} (hq : GQ K N x q) {n : Nat} (hn : (kpt q).length * (n + 1) ≤ 400) : (bnd (neB (.tup ((kpt q).map frD)) (.tup [])) fun k2 => if k2 = true then bnd (cl (d_frames_over (.tup (pairsOf (inq q))) (.tup ((kpt q).map frD)))) fun y7 => PL.repT y7 (.int (((n + 2 : Nat) : Int) - 2)) else ret (.tup [])) = ret (.tup ((rpt n ((kpt q).map (ovf (inq q)))).map frD)) := by
  obtain ⟨kg, kl⟩ := kpt_gf hq
  have hj : GJ K (inq q) := inn_gj hq
  have g1 : Gd 4 (.tup ((kpt q).map frD)) := Gd.tup (GF.gd hq.gp.nw kg)
  have g2 : Gd 4 (.tup []) := Gd.tup fun z hz => nomatch hz
  rw [neB_gd g1 g2 (by decide), bnd_ret]
  by_cases hk : kpt q = []
  · rw [hk, List.map_nil, decide_eq_true (rfl : D.tup [] = D.tup []), if_neg (by decide), List.map_nil, rpt_nil]
    rfl
  · have hp : 0 < (kpt q).length := List.length_pos_iff.mpr hk
    have k4 : (kpt q).length ≤ 400 := Nat.le_trans (Nat.le_mul_of_pos_right _ (Nat.succ_pos n)) hn
    have n4 : n + 1 ≤ 400 := Nat.le_trans (Nat.le_mul_of_pos_left _ hp) hn
    rw [decide_eq_false (fun e => hk (by injection e with e; exact List.map_eq_nil_iff.mp e)), if_pos (show (!false) = true from rfl), frames_eq hq.gp.kl hj kg (by omega), cl_ret, bnd_ret, show (((n + 2 : Nat) : Int) - 2) = (n : Int) by omega, repT_ok (by omega) (by rw [List.length_map, List.length_map]; omega), rpt_map]
theorem power_eq {x y : Nat} {q : Pq} (hq : GQ K N x q) {t : Nat} (ht : t ≤ 100000000000000000000000000000000000000000000000000) (hb1 : q.pat.length + (mor q).length * (t - 1) ≤ 400) (hb2 : q.fs.length + (kpt q).length * (t - 1) ≤ 400) (ok : GQ K N y (pw q t)) :
    d_power (plD' (dq q)) (.int (t : Int)) = ret (plD' (dq (pw q t))) := by
  obtain ⟨kg, kl⟩ := kpt_gf hq
  have hj : GJ K (inq q) := inn_gj hq
  have p1 := hq.gp.pl
  have f1 := hq.gp.fl
  have sl := spt_len q q
  have lm : (mor q).length = q.pat.length - (spt q q).length := List.length_drop
  have lk : (kpt q).length ≤ q.fs.length := by
    have := kep_len q q
    unfold kpt
    split
    · exact this
    · exact Nat.zero_le _
  have eo : d_own_places (.tup (q.pat.map .str)) (.tup (q.fs.map frD)) = ret (.lst ((spt q q).map (pk q.fs.length))) := own_places_eq (by omega) (by omega)
  have em' : q.pat.drop (spt q q).length = mor q := rfl
  unfold d_power
  rw [need_times_ok ht, cl_ret, bnd_ret, eqB_int, bnd_ret]
  by_cases h0 : t = 0
  · rw [decide_eq_true (by omega : (t : Int) = 0), if_pos rfl, new0, h0]
    rfl
  rw [decide_eq_false (by omega : ¬ (t : Int) = 0), if_neg (by decide), at_pat, at_src, at_fr, at_wr]
  simp -implicitDefEqProofs only [bnd_ret]
  rw [eo, cl_ret, bnd_ret, kept_eq hq, cl_ret, bnd_ret, lenI_lst, bnd_ret, List.length_map, sl_pat, em', bnd_ret]
  have mA : ∀ {a : Nat}, a ≤ 400 → mulI (a : Int) ((t : Int) - 1) = ret ((a * (t - 1) : Nat) : Int) := fun ha => by
    rw [mulI_ok (by omega), show ((t : Int) - 1) = ((t - 1 : Nat) : Int) by omega, ← Int.natCast_mul]
  simp -implicitDefEqProofs only [bnd_ret, lenI_tup, intI_int, List.length_map]
  rw [mA (by omega), bnd_ret, mA (by omega), bnd_ret]
  have hm : ∀ a b : Int, a ≤ 400 → b ≤ 400 → decide (400 < max2 a b) = false := fun a b ha hb => decide_eq_false (by unfold max2; split <;> omega)
  show (if decide (400 < max2 ((q.pat.length : Int) + (((mor q).length * (t - 1) : Nat) : Int)) ((q.fs.length : Int) + (((kpt q).length * (t - 1) : Nat) : Int))) = true then _ else _) = _
  rw [hm _ _ (by omega) (by omega), if_neg (by decide), eqB_int, bnd_ret]
  by_cases h1 : t = 1
  · rw [decide_eq_true (by omega : (t : Int) = 1), if_pos rfl, h1]
    rfl
  rw [decide_eq_false (by omega : ¬ (t : Int) = 1), if_neg (by decide), inner_of_eq, cl_ret, bnd_ret, frames_eq hq.gp.kl hj hq.gp.gf (by omega), cl_ret, bnd_ret, ov_eq hq.gp.kl hj hq.gp.gw, cl_ret, bnd_ret, bnd_ret]
  obtain ⟨n, rfl⟩ : ∃ n, t = n + 2 := ⟨t - 2, by omega⟩
  have i := init_eq ok.gp ok.up
  rw [show n + 2 - 1 = n + 1 from rfl] at hb1 hb2
  by_cases h : (spt q q).length = q.pat.length
  · rw [decide_eq_true (by omega : ((mor q).length : Int) = 0), if_pos rfl, copies_eq hq (by omega), bnd_ret]
    rw [pw_full h n] at i ⊢
    have lr : ((rpt n ((kpt q).map (ovf (inq q)))).map frD).length ≤ 1000 := by
      rw [List.length_map, rpt_len, List.length_map]
      have : (kpt q).length * n ≤ (kpt q).length * (n + 1) := Nat.mul_le_mul_left _ (Nat.le_succ n)
      omega
    rw [tup_add _ _ (by simp only [List.length_append, List.length_map] at lr ⊢; omega), bnd_ret, tup_add _ _ (by simp only [List.length_append, List.length_map] at lr ⊢; omega), bnd_ret, ← List.map_append, ← List.map_append, i, cl_ret, bnd_ret]
    rfl
  · rw [decide_eq_false (by omega : ¬ ((mor q).length : Int) = 0), if_neg (by decide)]
    rw [pw_part h n] at i ⊢
    have es : (((n + 2 : Nat) : Int) - 1) = ((n + 1 : Nat) : Int) := by omega
    have ea : ∀ x y : Int, addI (.int x) (.int y) = PL.ret (x + y) := fun _ _ => rfl
    have mp : 0 < (mor q).length := by omega
    have n4 : n + 1 ≤ 400 := Nat.le_trans (Nat.le_mul_of_pos_left _ mp) (by omega : (mor q).length * (n + 1) ≤ 400)
    have rT : PL.repT (.tup ((mor q).map .str)) (.int (((n + 2 : Nat) : Int) - 1)) = ret (.tup ((rpt (n + 1) (mor q)).map .str)) := by
      rw [es, repT_ok (by omega) (by rw [List.length_map]; omega), rpt_map]
    have rl : (rpt (n + 1) (mor q)).length ≤ 1000 := by
      rw [rpt_len]
      omega
    by_cases h2 : (spt q q).length < q.src
    · rw [decide_eq_true (by omega : ((spt q q).length : Int) < (q.src : Int)), if_pos rfl, bnd_ret, ea, bnd_ret, bnd_ret, rT, bnd_ret, tup_add _ _ (by rw [List.length_map, List.length_map]; omega), bnd_ret, ← List.map_append]
      rw [if_pos h2] at i ⊢
      rw [show n + 2 - 1 = n + 1 from rfl, show ((q.src : Int) + (((mor q).length * (n + 1) : Nat) : Int)) = ((q.src + (mor q).length * (n + 1) : Nat) : Int) by omega, i, cl_ret, bnd_ret]
      rfl
    · rw [decide_eq_false (by omega : ¬ ((spt q q).length : Int) < (q.src : Int)), if_neg (by decide), bnd_ret, rT, bnd_ret, tup_add _ _ (by rw [List.length_map, List.length_map]; omega), bnd_ret, ← List.map_append]
      rw [if_neg h2] at i ⊢
      rw [i, cl_ret, bnd_ret]
      rfl
end
end Q24

namespace Q24
open PySem PySem.Spec L2 PL
/-! ### what the law asks of powers -/
section
variable {K N : List Str}
open Classical in
theorem dq_gd {x : Nat} {q : Pq} (h : GQ K N x q) : Gd 5 (dq q) := by
  refine Gd.tup fun y hy => ?_
  simp only [List.mem_cons, List.not_mem_nil, or_false] at hy
  rcases hy with rfl | rfl | rfl | rfl
  · refine Gd.tup fun z hz => ?_
    obtain ⟨n, hn, rfl⟩ := List.mem_map.mp hz
    exact Gd.str (word_ok (h.gp.nw n (h.gp.pn n hn)))
  · exact Gd.int
  · exact (Gd.tup (k := 3) (GF.gd h.gp.nw h.gp.gf))
  · exact (pairsOf_gd h.gp.gw.1).up (by decide)
open Classical in
theorem eq_ok {x : Nat} {q : Pq} (h : GQ K N x q) : insIs (Str.ofString "Plan") (Str.ofString "own_parts") (plD' (dq q)) (insIs (Str.ofString "Plan") (Str.ofString "own_parts") (plD' (dq q)) (quiet (cl (d_Plan_eq (plD' (dq q)) (plD' (dq q)))))) = ret (.bl true) := by
  have e : d_Plan_eq (plD' (dq q)) (plD' (dq q)) = ret (.bl true) := by
    unfold d_Plan_eq
    rw [ins_own, andD_t, fld_own, bnd_ret, bnd_ret, eqB_gd (dq_gd h) (dq_gd h) (by decide), bnd_ret]
    exact congrArg (fun z => (ret (D.bl z) : W D)) (decide_eq_true rfl)
  rw [ins_own, ins_own, e, cl_ret, quiet_ret]
theorem nb_t : notBl (.bl true) = ret (.bl false) := rfl
theorem orF (m : W Bool) : orB (ret false) m = m := rfl
theorem adds_ok {a b c e : Nat} {sk A B C E : Pq} {one two : Nat} (a1 : d_power (plD' (dq sk)) (.int (one : Int)) = ret (plD' (dq A))) (a2 : d_power (plD' (dq sk)) (.int (two : Int)) = ret (plD' (dq B))) (a3 : d_power (plD' (dq sk)) (.int ((one + two : Nat) : Int)) = ret (plD' (dq C)))
    (p1 : d_power (plD' (dq A)) (.int (two : Int)) = ret (plD' (dq E))) (p2 : d_power (plD' (dq B)) (.int (one : Int)) = ret (plD' (dq E))) (gA : GQ K N a A) (gB : GQ K N b B) (hl : a + b ≤ 400) (gC : GQ K N c C) (gE : GQ K N e E) (m1 : tm A B = C) (m2 : tm B A = C) :
    d_l_adds (plD' (dq sk)) (.int (one : Int)) (.int (two : Int)) = ret (.bl true) := by
  have x1 := mul_ins gA gB hl
  have x2 := mul_ins gB gA (by omega)
  rw [m1] at x1
  rw [m2] at x2
  have ea : addD (.int (one : Int)) (.int (two : Int)) = ret (.int ((one + two : Nat) : Int)) := rfl
  unfold d_l_adds
  rw [ea, bnd_ret, a3, cl_ret, bnd_ret, a1, cl_ret, a2, cl_ret]
  simp -implicitDefEqProofs only [bnd_ret, x1, x2, eq_ok gC, nb_t, blB_bl, orB_ret, Bool.or_false, Bool.false_eq_true, if_false]
  rw [p1, cl_ret, bnd_ret, p2, cl_ret, bnd_ret, eq_ok gE]
/-! plans of few commands -/
structure Sml (K N : List Str) (p : Pq) : Prop where
  g : GQ K N 8 p
  c : Cq p
theorem Sml.pw {p : Pq} (h : Sml K N p) {t : Nat} (ht : t ≤ 50) : GQ K N (8 * t) (pw p t) ∧ Cq (pw p t) := pw_okx h.g h.c t (by omega)
theorem Sml.vp {p : Pq} (h : Sml K N p) {n : Nat} (hn : n ≤ 50) : ∀ i ≤ n, Vp K N (Q24.pw p i) := fun i hi => ⟨⟨_, (h.pw (by omega)).1⟩, (h.pw (by omega)).2⟩
theorem mor_le (q : Pq) : (mor q).length ≤ q.pat.length := by
  unfold mor
  rw [List.length_drop]
  omega
theorem kpt_le (q : Pq) : (kpt q).length ≤ q.fs.length := by
  have := kep_len q q
  unfold kpt
  split
  · exact this
  · exact Nat.zero_le _
theorem mul_bd {u a b t : Nat} (h1 : a ≤ u) (h2 : b ≤ u) (h : u * t ≤ 400) (hu : u ≤ 400) : a + b * (t - 1) ≤ 400 := by
  cases t with
  | zero => simp only [Nat.zero_sub, Nat.mul_zero]; omega
  | succ t =>
    have : b * t ≤ u * t := Nat.mul_le_mul_right _ h2
    rw [Nat.mul_succ] at h
    show a + b * t ≤ 400
    omega
theorem Sml.power {p : Pq} (h : Sml K N p) {s t : Nat} (h1 : s ≤ 50) (h2 : s * t + s ≤ 50) (h3 : t ≤ 50) : d_power (plD' (dq (Q24.pw p s))) (.int (t : Int)) = ret (plD' (dq (Q24.pw p (s * t)))) := by
  obtain ⟨g, c⟩ := h.pw h1
  have em' := pw_mul h.g h.c s t (h.vp h2)
  have e8 : 8 * s * t ≤ 400 := by
    rw [Nat.mul_assoc]
    omega
  have ok := (h.pw (t := s * t) (by omega)).1
  rw [← em'] at ok
  have pl := g.pl
  have fl := g.fl
  have := mor_le (Q24.pw p s)
  have := kpt_le (Q24.pw p s)
  rw [power_eq g (by omega) (mul_bd pl (by omega) e8 (by omega)) (mul_bd fl (by omega) e8 (by omega)) ok, em']
theorem Sml.power1 {p : Pq} (h : Sml K N p) {t : Nat} (ht : t ≤ 49) : d_power (plD' (dq p)) (.int (t : Int)) = ret (plD' (dq (Q24.pw p t))) := by
  have := h.power (s := 1) (t := t) (by decide) (by omega) (by omega)
  rw [Nat.one_mul] at this
  exact this
theorem pw_pat (q : Pq) (t : Nat) : (pw q (t + 1)).pat = q.pat ++ rpt t (mor q) := by
  cases t with
  | zero => rw [rpt_zero, List.append_nil]; rfl
  | succ n =>
    by_cases h : (spt q q).length = q.pat.length
    · have hm : mor q = [] := by
        unfold mor
        rw [h, List.drop_length]
      rw [pw_full h, hm, rpt_nil, List.append_nil]
    · rw [pw_part h]
theorem own_m_eq {x : Nat} {q : Pq} (hq : GQ K N x q) : d_own_matches (plD' (dq q)) = ret (.int ((spt q q).length : Int)) := by
  have p1 := hq.gp.pl
  have f1 := hq.gp.fl
  have eo : d_own_places (.tup (q.pat.map .str)) (.tup (q.fs.map frD)) = ret (.lst ((spt q q).map (pk q.fs.length))) := own_places_eq (by omega) (by omega)
  unfold d_own_matches
  rw [at_pat, bnd_ret, at_fr, bnd_ret, eo, cl_ret, bnd_ret, lenI_lst, bnd_ret, List.length_map]
theorem ptq_rpt (h : Kn K N) {cs : List Cd} (hc : ∀ c ∈ cs, CdOk K N c) (hl : cs.length ≤ 8) : ∀ t : Nat, t ≤ 40 → ptq (rpt t cs) = pw (ptq cs) t
  | 0, _ => rfl
  | t + 1, ht => by
    have hr : ∀ c ∈ rpt t cs, CdOk K N c := fun c hm => by
      unfold rpt at hm
      obtain ⟨l, h1, h2⟩ := List.mem_flatten.mp hm
      rw [(List.mem_replicate.mp h1).2] at h2
      exact hc c h2
    have lr : (rpt t cs).length ≤ 8 * 40 := by
      rw [rpt_len]
      exact Nat.mul_le_mul hl (by omega)
    have := ptq_app h hr cs.reverse (fun c hm => hc c (List.mem_reverse.mp hm)) (by rw [List.length_reverse]; omega)
    rw [List.reverse_reverse] at this
    obtain ⟨g, c, _⟩ := ptq_ok h hc (by omega)
    rw [rpt_succ, this, ptq_rpt h hc hl t (by omega)]
    exact pw_succ g c t
open Classical in
theorem small_gen (h : Kn K N) {cs : List Cd} (hc : ∀ c ∈ cs, CdOk K N c) (hl : cs.length ≤ 8) : Gen (d_l_small_right (.lst (cs.map cmdD))) 2 (fun d => d = .bl true) := by
  obtain ⟨g0, c0, _⟩ := ptq_ok h hc (by omega)
  have S : Sml K N (ptq cs) := ⟨g0.mono hl, c0⟩
  have of0 := of_eq24 h hc (by omega)
  generalize ep : ptq cs = p at S of0
  unfold d_l_small_right
  rw [of0, cl_ret, bnd_ret]
  simp only [bnd_bnd]
  refine Gen.dr (c := 1) (by decide) (by decide) fun r q0 q1 => ?_
  refine Gen.dr (c := 0) (by decide) (by decide) fun r1 z0 z1 => ?_
  obtain ⟨one, rfl⟩ := Int.eq_ofNat_of_zero_le q0
  obtain ⟨two, rfl⟩ := Int.eq_ofNat_of_zero_le z0
  have o5 : one ≤ 5 := by omega
  have t4 : two ≤ 4 := by omega
  have m20 : one * two ≤ 5 * 4 := Nat.mul_le_mul o5 t4
  have m20' : two * one ≤ 4 * 5 := Nat.mul_le_mul t4 o5
  have P := fun {t : Nat} (ht : t ≤ 49) => S.power1 ht
  have gO := S.pw (t := one) (by omega)
  have gT := S.pw (t := two) (by omega)
  have gM := S.pw (t := one * two) (by omega)
  have gS := S.pw (t := one + two) (by omega)
  have pp1 := S.power (s := one) (t := two) (by omega) (by omega) (by omega)
  have pp2 := S.power (s := two) (t := one) (by omega) (by omega) (by omega)
  rw [Nat.mul_comm two one] at pp2
  have m1 := pw_add S.g S.c one two (S.vp (by omega))
  have m2 := pw_add S.g S.c two one (S.vp (by omega))
  rw [Nat.add_comm two one] at m2
  have A := adds_ok (P (t := one) (by omega)) (P (t := two) (by omega)) (P (t := one + two) (by omega)) pp1 pp2 gO.1 gT.1 (by omega) gS.1 gM.1 m1 m2
  rw [bnd_ret]
  show Gen (bnd (orB (bnd (cl (d_l_adds (plD' (dq p)) (.int (one : Int)) (.int (two : Int)))) _) _) _) _ _
  rw [A, cl_ret, bnd_ret, tru_bl, bnd_ret, show (!true) = false from rfl, orF]
  have em1 : mulI (one : Int) (two : Int) = ret ((one * two : Nat) : Int) := by
    rw [mulI_ok (by omega), ← Int.natCast_mul]
  rw [P (t := one) (by omega), cl_ret, bnd_ret, pp1, cl_ret, bnd_ret, em1, bnd_ret, P (t := one * two) (by omega), cl_ret, bnd_ret, eq_ok gM.1, bnd_ret, nb_t, bnd_ret, blB_bl, bnd_ret, if_neg (by decide)]
  have rp : repD (.lst (cs.map cmdD)) (.int (one : Int)) = ret (.lst ((rpt one cs).map cmdD)) := by
    show grd _ _ = _
    rw [grd_pos ⟨by omega, by omega, by rw [List.length_map, Int.toNat_natCast, sizeLine_eq]; exact Nat.le_trans (Nat.mul_le_mul hl o5) (by decide)⟩, rpt_map]
    unfold repL rpt
    rw [Int.toNat_natCast]
  have hr : ∀ c ∈ rpt one cs, CdOk K N c := fun c hm => by
    unfold rpt at hm
    obtain ⟨l, h1, h2⟩ := List.mem_flatten.mp hm
    rw [(List.mem_replicate.mp h1).2] at h2
    exact hc c h2
  have lr : (rpt one cs).length ≤ 8 * 5 := by
    rw [rpt_len]
    exact Nat.mul_le_mul hl o5
  have of1 := of_eq24 h hr (by omega)
  rw [ptq_rpt h hc hl one (by omega), ep] at of1
  rw [rp]
  simp -implicitDefEqProofs only [bnd_ret]
  rw [of1, cl_ret, bnd_ret, eq_ok gO.1, bnd_ret, nb_t, bnd_ret, blB_bl, bnd_ret, if_neg (by decide), at_pat, bnd_ret, own_m_eq S.g, cl_ret, bnd_ret, intI_int, bnd_ret, sl_pat, bnd_ret]
  have P1 : d_power (plD' (dq p)) (.int ((one : Int) + 1)) = ret (plD' (dq (pw p (one + 1)))) := P (t := one + 1) (by omega)
  have ml : (mor p).length ≤ 8 := Nat.le_trans (mor_le p) S.g.pl
  have rT : PL.repT (.tup ((p.pat.drop (spt p p).length).map .str)) (.int (one : Int)) = ret (.tup ((rpt one (mor p)).map .str)) := by
    show PL.repT (.tup ((mor p).map .str)) _ = _
    rw [repT_ok (by omega) (by rw [List.length_map]; omega), rpt_map]
  have rl : (rpt one (mor p)).length ≤ 8 * 5 := by
    rw [rpt_len]
    exact Nat.mul_le_mul ml o5
  have pl := S.g.pl
  have gg : Gd 2 (.tup ((p.pat ++ rpt one (mor p)).map .str)) := by
    rw [← pw_pat]
    exact Gd.tup fun z hz => by
      obtain ⟨n, hn, rfl⟩ := List.mem_map.mp hz
      have g := (S.pw (t := one + 1) (by omega)).1
      exact Gd.str (word_ok (g.gp.nw n (g.gp.pn n hn)))
  show Gen (bnd (cl (d_power (plD' (dq p)) (.int ((one : Int) + 1)))) _) _ _
  rw [P1, cl_ret, bnd_ret, at_pat, bnd_ret, bnd_ret, rT, bnd_ret, tup_add _ _ (by rw [List.length_map, List.length_map]; omega), bnd_ret, ← List.map_append, pw_pat, eqB_gd gg gg (by decide), bnd_ret]
  exact Gen.ret (congrArg D.bl (decide_eq_true rfl))
end
end Q24

namespace Q24
open PySem PySem.Spec L2 PL
/-! ### plans that need and leave no more -/
section
variable {K N : List Str}
structure Stm (K N : List Str) (p : Pq) : Prop where
  g : GQ K N 8 p
  c : Cq p
  s : Sdy p
theorem Stm.all {p : Pq} (h : Stm K N p) (t : Nat) : GQ K N 16 (pw p t) ∧ Cq (pw p t) ∧ Sdy (pw p t) := sdy_all h.g h.c h.s (by decide) t
theorem Stm.vp {p : Pq} (h : Stm K N p) (n : Nat) : ∀ i ≤ n, Vp K N (pw p i) := fun i _ => ⟨⟨_, (h.all i).1⟩, (h.all i).2.1⟩
theorem Stm.power {p : Pq} (h : Stm K N p) (s : Nat) {t : Nat} (ht : t ≤ 100000000000000000000000000000000000000000000000000) : d_power (plD' (dq (pw p s))) (.int (t : Int)) = ret (plD' (dq (pw p (s * t)))) := by
  obtain ⟨g, c, sd⟩ := h.all s
  obtain ⟨_, ek, em'⟩ := sdy_eq g sd
  have e := pw_mul h.g h.c s t (h.vp _)
  have ok := (h.all (s * t)).1
  rw [← e] at ok
  have pl := g.pl
  have fl := g.fl
  rw [power_eq g ht (by rw [em', List.length_nil, Nat.zero_mul]; omega) (by rw [ek, List.length_nil, Nat.zero_mul]; omega) ok, e]
theorem Stm.power1 {p : Pq} (h : Stm K N p) {t : Nat} (ht : t ≤ 100000000000000000000000000000000000000000000000000) : d_power (plD' (dq p)) (.int (t : Int)) = ret (plD' (dq (pw p t))) := by
  have := h.power 1 ht
  rw [Nat.one_mul] at this
  exact this
theorem Stm.adds {p : Pq} (h : Stm K N p) {s t : Nat} (hl : s + t ≤ 100000000000000000000000000000000000000000000000000) : d_l_adds (plD' (dq p)) (.int (s : Int)) (.int (t : Int)) = ret (.bl true) := by
  have hs : s ≤ 100000000000000000000000000000000000000000000000000 := Nat.le_trans (Nat.le_add_right s t) hl
  have ht : t ≤ 100000000000000000000000000000000000000000000000000 := Nat.le_trans (Nat.le_add_left t s) hl
  have pp2 := h.power t hs
  rw [Nat.mul_comm t s] at pp2
  have m2 := pw_add h.g h.c t s (h.vp _)
  rw [Nat.add_comm t s] at m2
  exact adds_ok (h.power1 hs) (h.power1 ht) (h.power1 hl) (h.power s ht) pp2 (h.all s).1 (h.all t).1 (by decide) (h.all (s + t)).1 (h.all (s * t)).1 (pw_add h.g h.c s t (h.vp _)) m2
theorem mulI_big {i j : Nat} (hi : i < 10000000000000000000000000000000000000000000000000000) (hj : j < 10000000000000000000000000000000000000000000000000000) : mulI (i : Int) (j : Int) = ret ((i * j : Nat) : Int) := by
  have b1 : (i : Int).natAbs < 2 ^ 200 := Nat.lt_of_lt_of_le (show (i : Int).natAbs < _ from hi) (by decide +kernel)
  have b2 : (j : Int).natAbs < 2 ^ 200 := Nat.lt_of_lt_of_le (show (j : Int).natAbs < _ from hj) (by decide +kernel)
  unfold mulI
  rw [grd_pos (.inr (wide_mul b1 b2 (by decide) (by decide) (by decide))), Int.natCast_mul]
/-- what is asked of a plan with great numbers of runs -/
theorem great_gen (h : Kn K N) {cs : List Cd} (hc : ∀ c ∈ cs, CdOk K N c) (hl : cs.length ≤ 8) (hs : Sdy (ptq cs)) : Gen (d_l_great_right (.lst (cs.map cmdD))) 4 (fun d => d = .bl true) := by
  obtain ⟨g0, c0, _⟩ := ptq_ok h hc (by omega)
  have S : Stm K N (ptq cs) := ⟨g0.mono hl, c0, hs⟩
  have of0 := of_eq24 h hc (by omega)
  generalize ptq cs = p at S of0
  unfold d_l_great_right
  rw [of0, cl_ret, bnd_ret, bnd_bnd]
  refine Gen.dr (c := 3) (by decide) (by decide) fun r q0 q1 => ?_
  obtain ⟨u, rfl⟩ := Int.eq_ofNat_of_zero_le q0
  rw [bnd_ret, bnd_bnd]
  refine Gen.dr (c := 2) (by decide) (by decide) fun r1 z0 z1 => ?_
  rw [bnd_bnd]
  refine Gen.dr (c := 1) (by decide) (by decide) fun r2 y0 y1 => ?_
  refine Gen.pickL y0 (by simp only [List.length_cons, List.length_nil]; omega) fun two ht => ?_
  obtain ⟨t, rfl, t2, tb⟩ : ∃ t : Nat, two = .int (t : Int) ∧ 2 ≤ t ∧ t ≤ 10000000000000000000000002 := by
    simp only [List.mem_cons, List.not_mem_nil, or_false] at ht
    rcases ht with rfl | rfl | rfl | rfl
    · exact ⟨10000000000000000000000000, rfl, by decide, by decide⟩
    · exact ⟨(2 + r1).toNat, by rw [Int.toNat_of_nonneg (by omega)], by omega, by omega⟩
    · exact ⟨2, rfl, by decide, by decide⟩
    · exact ⟨3, rfl, by decide, by decide⟩
  obtain ⟨one, eo, o1, o2⟩ : ∃ one : Nat, (1000000000000000000000000 : Int) + (u : Int) = (one : Int) ∧ 2 ≤ one ∧ one ≤ 2000000000000000000000000 := ⟨1000000000000000000000000 + u, by omega, by omega, by omega⟩
  rw [eo]
  have bm : one * t ≤ 2000000000000000000000000 * 10000000000000000000000002 := Nat.mul_le_mul o2 tb
  have bm' : one * t ≤ 100000000000000000000000000000000000000000000000000 := Nat.le_trans bm (by decide)
  rw [S.adds (s := one) (t := t) (by omega), cl_ret, bnd_ret, tru_bl, bnd_ret, show (!true) = false from rfl, orF]
  obtain ⟨s9, e9, b9⟩ : ∃ s : Nat, (9 * 10000000000000000000000000000000000000000000000000 : Int) = (s : Int) ∧ s = 90000000000000000000000000000000000000000000000000 := ⟨90000000000000000000000000000000000000000000000000, by omega, rfl⟩
  rw [mulI_ok (by omega), bnd_ret, e9, bnd_bnd]
  refine Gen.dr (c := 0) (by decide) (by decide) fun r3 x0 x1 => ?_
  obtain ⟨v, ev, bv⟩ : ∃ v : Nat, (10000000000000000000000000000000000000000000000000 : Int) - r3 = (v : Int) ∧ v ≤ 10000000000000000000000000000000000000000000000000 := ⟨(10000000000000000000000000000000000000000000000000 - r3).toNat, by omega, by omega⟩
  rw [ev, S.adds (s := s9) (t := v) (by omega), cl_ret, bnd_ret, tru_bl, bnd_ret, show (!true) = false from rfl, bnd_ret, if_neg (by decide)]
  have P := fun {t : Nat} (h : t ≤ 100000000000000000000000000000000000000000000000000) => S.power1 h
  have pp := S.power one (t := t) (by omega)
  have P2 : d_power (plD' (dq p)) (.int 2) = ret (plD' (dq (pw p 2))) := P (t := 2) (by decide)
  have P3 : d_power (plD' (dq p)) (.int 3) = ret (plD' (dq (pw p 2))) := by
    have : d_power (plD' (dq p)) (.int 3) = ret (plD' (dq (pw p 3))) := P (t := 3) (by decide)
    rw [this, show pw p 3 = pw p 2 from sdy_two S.g S.s 1]
  have two_of : ∀ n : Nat, 2 ≤ n → pw p n = pw p 2 := fun n hn => by
    obtain ⟨m, rfl⟩ : ∃ m, n = m + 2 := ⟨n - 2, by omega⟩
    exact sdy_two S.g S.s m
  have o3 : 2 ≤ one * t := Nat.le_trans o1 (Nat.le_mul_of_pos_right one (by omega))
  rw [two_of _ o3] at pp
  have Po := P (t := one) (by omega)
  rw [two_of _ o1] at Po pp
  have Pm := P (t := one * t) bm'
  rw [two_of _ o3] at Pm
  have g2 := (S.all 2).1
  have eq2 := eq_ok g2
  rw [Po, cl_ret, bnd_ret, pp, cl_ret, bnd_ret, intI_int, bnd_ret, mulI_big (by omega) (by omega), bnd_ret, Pm, cl_ret, P2, cl_ret]
  simp -implicitDefEqProofs only [bnd_ret, eq2, nb_t, blB_bl, orB_ret, Bool.or_false, Bool.false_eq_true, if_false]
  obtain ⟨w, ew, bw⟩ : ∃ w : Nat, (100000000000000000000000000000000000000000000000000 : Int) = (w : Int) ∧ w = 100000000000000000000000000000000000000000000000000 := ⟨100000000000000000000000000000000000000000000000000, by omega, rfl⟩
  have Pw := P (t := w) (by omega)
  rw [two_of _ (by omega), ← ew] at Pw
  have mp := mul_ins S.g S.g (by decide)
  rw [show tm p p = pw p 2 from pw_succ S.g S.c 1] at mp
  have mo := mul_ins g2 S.g (by decide)
  rw [show tm (pw p 2) p = pw p 3 from pw_succ S.g S.c 2, two_of 3 (by decide)] at mo
  rw [Pw, cl_ret, bnd_ret, mp, bnd_ret, eq2, andD_t, mo, bnd_ret, P3, cl_ret, bnd_ret, eq2]
  exact Gen.ret rfl
/-! the scripts drawn -/
def OkR (K N : List Str) (L : Str) : Cd → Prop
  | .wr k x => CdOk K N (.wr k x)
  | .mark n => n ∈ N ∧ n ≠ L
  | _ => False
def OkW (K N : List Str) : Cd → Prop
  | .wr k x => CdOk K N (.wr k x)
  | _ => False
theorem OkW.r {L : Str} {c : Cd} (h : OkW K N c) : OkR K N L c := by
  cases c with
  | wr k x => exact h
  | _ => exact h.elim
theorem OkR.ok {L : Str} {c : Cd} (h : OkR K N L c) : CdOk K N c := by
  cases c with
  | wr k x => exact h
  | mark n => exact h.1
  | _ => exact h.elim
def StS (K N : List Str) (L : Str) (cs : List Cd) : Prop := (∃ rest, cs = .back L :: rest ∧ ∀ c ∈ rest, OkR K N L c) ∨ ∀ c ∈ cs, OkW K N c
theorem StS.ok {L : Str} (hL : L ∈ N) {cs : List Cd} (h : StS K N L cs) : ∀ c ∈ cs, CdOk K N c := fun c hc => by
  rcases h with ⟨rest, rfl, h⟩ | h
  · rcases List.mem_cons.mp hc with rfl | hc
    · exact hL
    · exact (h c hc).ok
  · exact ((h c hc).r (L := L)).ok
theorem con_miss {n : Str} : ∀ {F : List Fr}, (∀ m ∈ F, m.1 ≠ n) → con [n] F = ([], [], [n])
  | [], _ => con_end _
  | m :: F, h => by
    rw [con_cons, if_neg (h m List.mem_cons_self)]
    exact con_miss fun x hx => h x (List.mem_cons_of_mem _ hx)
def InvB (L : Str) (a : Pq) : Prop := a.pat = [L] ∧ ∃ j tops, a.fs = (L, j) :: tops ∧ ∀ m ∈ tops, m.1 ≠ L
theorem InvB.sdy {L : Str} {a : Pq} (h : InvB L a) : Sdy a := by
  obtain ⟨hp, j, tops, hf, ht⟩ := h
  unfold Sdy
  rw [hp, hf, List.reverse_cons, con_app, con_miss fun m hm => ht m (List.mem_reverse.mp hm)]
  show ([] ++ (con [L] [(L, j)]).2.1, (con [L] [(L, j)]).2.2) = _
  rw [con_cons, if_pos rfl, con_nil]
  rfl
theorem InvB.step {L : Str} {a : Pq} (h : InvB L a) {c : Cd} (hc : OkR K N L c) : InvB L (tc a (sgl c)) := by
  obtain ⟨hp, j, tops, hf, ht⟩ := h
  cases c with
  | wr k x =>
    rw [tc_eq (b := sgl (.wr k x)) (con_nil _)]
    refine ⟨by show a.pat ++ [] = _; rw [List.append_nil, hp], j, tops, ?_, ht⟩
    show ([] ++ a.fs.reverse).reverse = _
    rw [List.nil_append, List.reverse_reverse, hf]
  | mark n =>
    rw [tc_eq (b := sgl (.mark n)) (con_nil _)]
    refine ⟨by show a.pat ++ [] = _; rw [List.append_nil, hp], j, tops ++ [(n, mg a.w [])], ?_, fun m hm => ?_⟩
    · show ([(n, mg a.w [])] ++ a.fs.reverse).reverse = _
      rw [List.reverse_append, List.reverse_reverse, hf]
      rfl
    · rcases List.mem_append.mp hm with hm | hm
      · exact ht m hm
      · rw [List.mem_singleton.mp hm]; exact hc.2
  | _ => exact hc.elim
theorem sdy_ptq (h : Kn K N) {L : Str} (hL : L ∈ N) {cs : List Cd} (hs : StS K N L cs) (hl : cs.length ≤ 400) : Sdy (ptq cs) := by
  rcases hs with ⟨rest, rfl, hr⟩ | hw
  · have key : ∀ rs : List Cd, (∀ c ∈ rs, OkR K N L c) → rs.length < 400 → InvB L (ptq (.back L :: rs.reverse)) := fun rs => by
      induction rs with
      | nil =>
        intro _ _
        have e : ptq [Cd.back L] = tm em (sgl (.back L)) := rfl
        show InvB L (ptq [Cd.back L])
        rw [e, tm_tc (em_ok h) (sgl_gq h (c := .back L) hL), tc_eq (a := em) (b := sgl (.back L)) (h := []) (R := []) (l := [L]) (show con [L] [] = ([], [], [L]) from con_end _)]
        exact ⟨rfl, mg [] [], [], rfl, fun m hm => nomatch hm⟩
      | cons c rs ih =>
        intro hc hl
        rw [List.length_cons] at hl
        have i := ih (fun d hd => hc d (List.mem_cons_of_mem _ hd)) (by omega)
        have ok : ∀ d ∈ Cd.back L :: rs.reverse, CdOk K N d := fun d hd => by
          rcases List.mem_cons.mp hd with rfl | hd
          · exact hL
          · exact (hc d (List.mem_cons_of_mem _ (List.mem_reverse.mp hd))).ok
        obtain ⟨g, _, _⟩ := ptq_ok h ok (by rw [List.length_cons, List.length_reverse]; omega)
        have cr := hc c List.mem_cons_self
        rw [List.reverse_cons, ← List.cons_append, ptq_snoc, tm_tc g (sgl_gq h cr.ok)]
        exact i.step cr
    have := key rest.reverse (fun c hc => hr c (List.mem_reverse.mp hc)) (by rw [List.length_reverse]; rw [List.length_cons] at hl; omega)
    rw [List.reverse_reverse] at this
    exact this.sdy
  · have key : ∀ rs : List Cd, (∀ c ∈ rs, OkW K N c) → rs.length ≤ 400 → (ptq rs.reverse).pat = [] ∧ (ptq rs.reverse).fs = [] := fun rs => by
      induction rs with
      | nil => exact fun _ _ => ⟨rfl, rfl⟩
      | cons c rs ih =>
        intro hc hl
        rw [List.length_cons] at hl
        obtain ⟨i1, i2⟩ := ih (fun d hd => hc d (List.mem_cons_of_mem _ hd)) (by omega)
        have ok : ∀ d ∈ rs.reverse, CdOk K N d := fun d hd => ((hc d (List.mem_cons_of_mem _ (List.mem_reverse.mp hd))).r (L := L)).ok
        obtain ⟨g, _, _⟩ := ptq_ok h ok (by rw [List.length_reverse]; omega)
        have cr := hc c List.mem_cons_self
        rw [List.reverse_cons, ptq_snoc, tm_tc g (sgl_gq h (cr.r (L := L)).ok)]
        cases c with
        | wr k x =>
          rw [tc_eq (b := sgl (.wr k x)) (con_nil _)]
          refine ⟨by show (ptq rs.reverse).pat ++ [] = _; rw [i1]; rfl, ?_⟩
          show ([] ++ (ptq rs.reverse).fs.reverse).reverse = _
          rw [i2]
          rfl
        | _ => exact cr.elim
    obtain ⟨e1, e2⟩ := key cs.reverse (fun c hc => hw c (List.mem_reverse.mp hc)) (by rw [List.length_reverse]; exact hl)
    rw [List.reverse_reverse] at e1 e2
    unfold Sdy
    rw [e1, e2]
    rfl
end
end Q24

namespace Q24
open PySem PySem.Spec L2 PL
/-! ### the law -/
section
variable {K N : List Str}
theorem cmd_gd (h : Kn K N) {c : Cd} (hc : CdOk K N c) : Gd 2 (cmdD c) := by
  have gs : ∀ {s : Str} {k : Nat}, wordB (.str s) = true → Gd k (.str s) := fun h => Gd.str (word_ok h)
  have two : ∀ {a b : Str}, wordB (.str a) = true → wordB (.str b) = true → Gd 2 (.tup [.str a, .str b]) := fun ha hb => Gd.tup fun y hy => by
    simp only [List.mem_cons, List.not_mem_nil, or_false] at hy
    rcases hy with rfl | rfl
    · exact gs ha
    · exact gs hb
  cases c with
  | wr k x =>
    rcases cmdD_wr (K := K) (N := N) hc with ⟨rfl, e⟩ | ⟨hn, e⟩
    · rw [e]; exact two (by decide +kernel) (h.kw k hc.1)
    · rw [e]
      refine Gd.tup fun y hy => ?_
      simp only [List.mem_cons, List.not_mem_nil, or_false] at hy
      rcases hy with rfl | rfl | rfl
      · exact gs (by decide +kernel)
      · exact gs (h.kw k hc.1)
      · rw [numB_int hn]; exact Gd.int
  | mark n => exact two (by decide +kernel) (h.nw n hc)
  | back n => exact two (by decide +kernel) (h.nw n hc)
  | keep n => exact two (by decide +kernel) (h.nw n hc)
theorem pick_cmd {es : List Cd} (h0 : 0 < es.length) (h1 : es.length < 1000) {j : List D} (hj : j.length < 1000) : Gen (bnd (bnd (drw ((es.map cmdD).length : Int)) fun r4 => ixD (.lst (es.map cmdD)) (.int r4)) fun app1 => roomL j (ret (.go (j ++ [app1]))) : W (Step (List D) D)) 1 (fun s => ∃ c ∈ es, s = .go (j ++ [cmdD c])) := by
  rw [bnd_bnd, List.length_map]
  refine Gen.dr (c := 0) (by omega) (by omega) fun r q0 q1 => Gen.pickL q0 (by rw [List.length_map]; exact q1) fun y hy => ?_
  obtain ⟨c, hc, rfl⟩ := List.mem_map.mp hy
  rw [room_pos (by omega)]
  exact Gen.ret ⟨c, hc, rfl⟩
theorem small_num {i : Int} (h0 : 0 ≤ i) (h1 : i < 7) : numB (.int i) = true := by
  simp only [numB, Bool.and_eq_true, decide_eq_true_eq]
  exact ⟨by omega, by omega⟩
def StI (K N : List Str) (L : Str) (i : Nat) (j : List D) : Prop := ∃ cs : List Cd, j = cs.map cmdD ∧ StS K N L cs ∧ cs.length ≤ 1 + i
open Classical in
theorem steady_gen {L : Str} {N' : List Str} (h : Kn K (L :: N')) (hn : (L :: N').Nodup) (h2 : 0 < N'.length) : Gen (d_l_steady (.lst ((L :: N').map .str)) (.lst (K.map .str))) 40 (fun d => ∃ cs, d = .lst (cs.map cmdD) ∧ StS K (L :: N') L cs ∧ cs.length ≤ 7) := by
  have hK := h.kl
  have hN := h.nl
  have pick := pickS h.k0 (by omega : K.length < 1000)
  have e0 : ixD (.lst ((L :: N').map .str)) (.int 0) = ret (.str L) := ix_natL (l := L :: N') (f := D.str) (i := 0) (by simp)
  have hL : L ∈ L :: N' := List.mem_cons_self
  unfold d_l_steady
  rw [e0, bnd_ret, bnd_ret, bnd_bnd]
  refine (Gen.dr (c := 39) (by decide) (by decide) fun r _ _ => ?_).up (by decide)
  rw [bnd_ret]
  have start : ∃ cs : List Cd, (if decide (r = 0) = true then ret [] else ret [D.tup [.str (Str.ofString "back"), .str L]] : W (List D)) = ret (cs.map cmdD) ∧ StS K (L :: N') L cs ∧ cs.length ≤ 1 := by
    cases decide (r = 0) with
    | true => exact ⟨[], rfl, .inr fun c hc => (nomatch hc), Nat.zero_le _⟩
    | false => exact ⟨[.back L], rfl, .inl ⟨[], rfl, fun c hc => (nomatch hc)⟩, Nat.le_refl _⟩
  obtain ⟨cs0, es, s0, l0⟩ := start
  rw [es, bnd_ret, bnd_bnd]
  refine (Gen.dr (c := 36) (by decide) (by decide) fun r1 z0 z1 => ?_).up (by decide)
  rw [rngI_ret (by omega), bnd_ret]
  refine (Gen.forI (c := 6) (d := 0) (xs := rngZ 0 r1.toNat) (i := 0) (n := 6) (I := StI K (L :: N') L) (by rw [rngZ_len]; omega) (fun turn htn i j hi hj => ?_) (fun j hj => ?_) ⟨cs0, rfl, s0, l0⟩).up (by rw [rngZ_len]; omega)
  · obtain ⟨cs, rfl, hs, hl⟩ := hj
    have hm := rngZ_mem htn
    have tn : numB (.int turn) = true := small_num (by omega) (by omega)
    refine (Gen.bind (c := 1) (d := 5) pick fun field ⟨s, hsk, ef⟩ => ?_).up (by decide)
    subst ef
    rw [bnd_bnd]
    refine (Gen.bind (c := 2) (d := 3) number_gen fun y hy => ?_).up (by decide)
    rw [bnd_ret]
    have okc := hs.ok hL
    have ec : eqB (.lst (cutD (cs.map cmdD) none (some 1))) (.lst [.tup [.str (Str.ofString "back"), .str L]]) = ret (decide (D.lst ((cs.map cmdD).take 1) = .lst [cmdD (.back L)])) := by
      have e1 : cutD (cs.map cmdD) none (some 1) = (cs.map cmdD).take 1 := cut_take _ 1
      rw [e1]
      exact eqB_gd (k := 3) (Gd.lst fun x hx => by
        obtain ⟨c, hc, rfl⟩ := List.mem_map.mp (List.mem_of_mem_take hx)
        exact cmd_gd h (okc c hc)) (Gd.lst fun x hx => by
        rw [List.mem_singleton.mp hx]
        exact cmd_gd (c := .back L) h hL) (by decide)
    rw [bnd_ret, ec, bnd_ret]
    have dd : [D.tup [.str (Str.ofString "set"), .str s, y], .tup [.str (Str.ofString "del"), .str s], .tup [.str (Str.ofString "set"), .str s, .int turn]] = [Cd.wr s y, .wr s .non, .wr s (.int turn)].map cmdD := by
      have e1 : cmdD (.wr s y) = .tup [.str wSet, .str s, y] := by rw [numB_int hy]; rfl
      show _ = [cmdD (.wr s y), cmdD (.wr s .non), cmdD (.wr s (.int turn))]
      rw [e1]
      rfl
    have ow : ∀ c ∈ [Cd.wr s y, .wr s .non, .wr s (.int turn)], OkW K (L :: N') c := fun c hc => by
      simp only [List.mem_cons, List.not_mem_nil, or_false] at hc
      rcases hc with rfl | rfl | rfl
      · exact ⟨hsk, .inr hy⟩
      · exact ⟨hsk, .inl rfl⟩
      · exact ⟨hsk, .inr tn⟩
    have ln : ∀ c : Cd, (cs ++ [c]).length ≤ 1 + (i + 1) := fun c => by rw [List.length_append]; simp only [List.length_cons, List.length_nil]; omega
    have snd : ∀ c : Cd, (D.lst ((cs.map cmdD).take 1) = .lst [cmdD (.back L)] → OkR K (L :: N') L c) → (¬ D.lst ((cs.map cmdD).take 1) = .lst [cmdD (.back L)] → OkW K (L :: N') c) → StS K (L :: N') L (cs ++ [c]) := fun c h1 h2 => by
      rcases hs with ⟨rest, rfl, hr⟩ | hw
      · refine .inl ⟨rest ++ [c], rfl, fun d hd => ?_⟩
        rcases List.mem_append.mp hd with hd | hd
        · exact hr d hd
        · rw [List.mem_singleton.mp hd]; exact h1 rfl
      · refine .inr fun d hd => ?_
        rcases List.mem_append.mp hd with hd | hd
        · exact hw d hd
        · rw [List.mem_singleton.mp hd]
          refine h2 fun e => ?_
          injection e with e
          cases cs with
          | nil => exact nomatch e
          | cons d ds =>
            have e1 : cmdD d = cmdD (.back L) := (List.cons.inj e).1
            have w := hw d List.mem_cons_self
            cases d with
            | wr k x =>
              rcases cmdD_wr (K := K) (N := L :: N') w with ⟨rfl, e3⟩ | ⟨_, e3⟩ <;> rw [e3] at e1
              · injection e1 with e1
                have := (List.cons.inj e1).1
                injection this with this
                exact absurd this (by decide +kernel)
              · injection e1 with e1
                have := (List.cons.inj e1).1
                injection this with this
                exact absurd this (by decide +kernel)
            | _ => exact w.elim
    rw [dd]
    by_cases hq : D.lst ((cs.map cmdD).take 1) = .lst [cmdD (.back L)]
    · rw [decide_eq_true hq, if_pos rfl, lenI_lst]
      simp only [bnd_bnd, bnd_ret]
      refine (Gen.dr (c := 1) (by rw [List.length_map, List.length_cons]; omega) (by rw [List.length_map, List.length_cons] at *; omega) fun r3 y0 y1 => ?_).up (by decide)
      rw [List.length_map, List.length_cons] at y1
      obtain ⟨v, rfl⟩ := Int.eq_ofNat_of_zero_le y0
      have hv : v + 1 < (L :: N').length := by rw [List.length_cons]; omega
      have ei : ixD (.lst ((L :: N').map .str)) (.int (1 + (v : Int))) = ret (.str (L :: N')[v + 1]) := by
        rw [show (1 + (v : Int)) = ((v + 1 : Nat) : Int) by omega]
        exact ix_natL hv
      have nl : (L :: N')[v + 1] ≠ L := fun e => (List.nodup_cons.mp hn).1 (by
        rw [← e]
        exact List.getElem_mem _)
      rw [ei, bnd_ret, room_pos (by simp), bnd_ret]
      have d4 : [Cd.wr s y, .wr s .non, .wr s (.int turn)].map cmdD ++ [D.tup [.str (Str.ofString "mark"), .str (L :: N')[v + 1]]] = [Cd.wr s y, .wr s .non, .wr s (.int turn), .mark (L :: N')[v + 1]].map cmdD := rfl
      rw [d4]
      have pc := pick_cmd (es := [Cd.wr s y, .wr s .non, .wr s (.int turn), .mark (L :: N')[v + 1]]) (j := cs.map cmdD) (by simp) (by simp) (by rw [List.length_map]; omega)
      rw [bnd_bnd] at pc
      refine pc.to fun st ht => ?_
      obtain ⟨c, hc, rfl⟩ := ht
      have okr : OkR K (L :: N') L c := by
        have : c ∈ [Cd.wr s y, .wr s .non, .wr s (.int turn)] ∨ c = .mark (L :: N')[v + 1] := by
          simp only [List.mem_cons, List.not_mem_nil, or_false] at hc ⊢
          rcases hc with h | h | h | h
          · exact .inl (.inl h)
          · exact .inl (.inr (.inl h))
          · exact .inl (.inr (.inr h))
          · exact .inr h
        rcases this with hc | rfl
        · exact (ow c hc).r
        · exact ⟨List.getElem_mem _, nl⟩
      exact ⟨cs ++ [c], by rw [List.map_append]; rfl, snd c (fun _ => okr) (fun z => absurd hq z), ln c⟩
    · rw [decide_eq_false hq, if_neg (by decide), bnd_ret]
      have pc := pick_cmd (es := [Cd.wr s y, .wr s .non, .wr s (.int turn)]) (j := cs.map cmdD) (by simp) (by simp) (by rw [List.length_map]; omega)
      refine (pc.to fun st ht => ?_).up (by decide)
      obtain ⟨c, hc, rfl⟩ := ht
      exact ⟨cs ++ [c], by rw [List.map_append]; rfl, snd c (fun _ => (ow c hc).r) (fun _ => ow c hc), ln c⟩
  · obtain ⟨cs, rfl, hs, hl⟩ := hj
    rw [rngZ_len] at hl
    exact Gen.ret ⟨cs, rfl, hs, by omega⟩
def JT24 (_ : Unit) : Prop := True
end
theorem law_gen : Gen d_law 1000 (fun d => d = .bl true) := by
  unfold d_law
  rw [rngK_eq, rngI_ret (by decide), bnd_ret]
  refine (Gen.forS (c := 200) (d := 0) 3 JT24 (by rw [rngZ_len]; decide) trivial (fun turn _ j _ => ?_) fun j _ => ?_).up (by decide)
  case refine_2 => exact Gen.ret rfl
  rw [bnd_bnd]
  refine (Gen.bind (c := 3) (d := 190) labels_gen fun y ⟨N, eN, n2, n4, nN, wN⟩ => ?_).up (by decide)
  rw [bnd_bnd]
  refine (Gen.bind (c := 3) (d := 180) labels_gen fun y ⟨K, eK, k2, k4, nK, wK⟩ => ?_).up (by decide)
  subst eN eK
  rw [bnd_ret]
  match N, n2, n4, nN, wN with
  | L :: N', n2, n4, nN, wN =>
  rw [List.length_cons] at n2 n4
  have h : Kn K (L :: N') := ⟨wK, wN, nK, by omega, by rw [List.length_cons]; omega, by omega, by rw [List.length_cons]; omega⟩
  rw [bnd_bnd]
  refine (Gen.dr (c := 170) (by decide) (by decide) fun many q0 q1 => ?_).up (by decide)
  rw [rngI_ret (by omega), bnd_ret]
  refine (Gen.bind (c := 5 * 8) (d := 100) (Gen.map (c := 5) (Q := Cm K (L :: N')) 8 (by rw [rngZ_len]; omega) fun x _ => deed_gen h) fun xs ⟨l1, hx⟩ => ?_).up (by decide)
  rw [rngZ_len] at l1
  obtain ⟨cs, rfl, hc⟩ := cds_of hx
  rw [List.length_map] at l1
  have sg := small_gen h hc (by omega)
  have tg := steady_gen h nN (by omega)
  have key : Gen (orB (bnd (d_l_small_right (.lst (cs.map cmdD))) fun y3 => bnd (tru y3) fun k => ret (!k)) (bnd (d_l_steady (.lst ((L :: N').map .str)) (.lst (K.map .str))) fun y4 => bnd (d_l_great_right y4) fun y5 => bnd (tru y5) fun k1 => ret (!k1))) 50 (fun b => b = false) := by
    have s1 : Gen (bnd (d_l_small_right (.lst (cs.map cmdD))) fun y3 => bnd (tru y3) fun k => ret (!k)) 2 (fun b => b = false) := Gen.bind (c := 2) (d := 0) sg fun y hy => by
      subst hy
      rw [tru_bl, bnd_ret]
      exact Gen.ret rfl
    unfold orB
    refine (Gen.bind (c := 2) (d := 44) s1 fun b hb => ?_).up (by decide)
    subst hb
    show Gen (bnd (d_l_steady (.lst ((L :: N').map .str)) (.lst (K.map .str))) _) _ _
    refine (Gen.bind (c := 40) (d := 4) tg fun y hy => ?_)
    obtain ⟨ds, rfl, hs, hl⟩ := hy
    have dc := hs.ok (N := L :: N') List.mem_cons_self
    have gg := great_gen h dc (by omega) (sdy_ptq h List.mem_cons_self hs (by omega))
    refine (Gen.bind (c := 4) (d := 0) gg fun y hy => ?_)
    subst hy
    rw [tru_bl, bnd_ret]
    exact Gen.ret rfl
  refine (Gen.bind (c := 50) (d := 0) key fun b hb => ?_).up (by decide)
  subst hb
  rw [if_neg (by decide)]
  exact Gen.ret trivial
theorem holds : d_law n0 (fun d _ => d = .bl true) (fun _ _ => False) := law_gen n0 _ _ (by decide) fun a k q _ _ => q
end Q24

namespace Q24
open PySem PySem.Spec L2 PL
section
variable {w : World} {K : PySem.W.Frag} {h : Heap} {mg : Str → Option Value} (X : K.In h) (G : h.Ns mainGlobals mg)
include X G
set_option maxHeartbeats 0 in
theorem fin {P : Program} {fa : Addr} (holds : d_law n0 (fun d _ => d = .bl true) (fun _ _ => False)) (hfa : mg "law" = some (.ref fa)) (z_abs : PySem.W.nsIn K mainGlobals "abs" = some none)
  (z_all : PySem.W.nsIn K mainGlobals "all" = some none)
  (z_bool : PySem.W.nsIn K mainGlobals "bool" = some none)
  (z_dict : PySem.W.nsIn K mainGlobals "dict" = some none)
  (z_enumerate : PySem.W.nsIn K mainGlobals "enumerate" = some none)
  (z_int : PySem.W.nsIn K mainGlobals "int" = some none)
  (z_isinstance : PySem.W.nsIn K mainGlobals "isinstance" = some none)
  (z_len : PySem.W.nsIn K mainGlobals "len" = some none)
  (z_list : PySem.W.nsIn K mainGlobals "list" = some none)
  (z_max : PySem.W.nsIn K mainGlobals "max" = some none)
  (z_range : PySem.W.nsIn K mainGlobals "range" = some none)
  (z_sorted : PySem.W.nsIn K mainGlobals "sorted" = some none)
  (z_str : PySem.W.nsIn K mainGlobals "str" = some none)
  (z_tuple : PySem.W.nsIn K mainGlobals "tuple" = some none)
  (z_zip : PySem.W.nsIn K mainGlobals "zip" = some none)
  {t_BACK : Tok} (c_BACK : PySem.W.nsIn K mainGlobals "BACK" = some (some (.str "back" t_BACK)))
  {t_DEL : Tok} (c_DEL : PySem.W.nsIn K mainGlobals "DEL" = some (some (.str "del" t_DEL)))
  {a_c_EMPTY : Addr} (c_EMPTY : PySem.W.nsIn K mainGlobals "EMPTY" = some (some (.ref a_c_EMPTY)))
  {a_c_EMPTY_0 : Addr} {t_c_EMPTY_1 : Tok} {a_c_EMPTY_2 : Addr} {a_c_EMPTY_3 : Addr} {n_c_EMPTY : Nat} {sl_c_EMPTY : Array (Option Value)} (lc_EMPTY : K.lookup a_c_EMPTY = some ⟨.type "tuple", none, .seq #[.ref a_c_EMPTY_0, .int 0 t_c_EMPTY_1, .ref a_c_EMPTY_2, .ref a_c_EMPTY_3] n_c_EMPTY, sl_c_EMPTY⟩)
   {n_c_EMPTY_0 : Nat} {sl_c_EMPTY_0 : Array (Option Value)} (lc_EMPTY_0 : K.lookup a_c_EMPTY_0 = some ⟨.type "tuple", none, .seq #[] n_c_EMPTY_0, sl_c_EMPTY_0⟩)
   {n_c_EMPTY_2 : Nat} {sl_c_EMPTY_2 : Array (Option Value)} (lc_EMPTY_2 : K.lookup a_c_EMPTY_2 = some ⟨.type "tuple", none, .seq #[] n_c_EMPTY_2, sl_c_EMPTY_2⟩)
   {n_c_EMPTY_3 : Nat} {sl_c_EMPTY_3 : Array (Option Value)} (lc_EMPTY_3 : K.lookup a_c_EMPTY_3 = some ⟨.type "tuple", none, .seq #[] n_c_EMPTY_3, sl_c_EMPTY_3⟩)
  {t_GREATEST_VALUE : Tok} (c_GREATEST_VALUE : PySem.W.nsIn K mainGlobals "GREATEST_VALUE" = some (some (.int 1000000000000000000 t_GREATEST_VALUE)))
  {t_KEEP : Tok} (c_KEEP : PySem.W.nsIn K mainGlobals "KEEP" = some (some (.str "keep" t_KEEP)))
  {t_LETTERS : Tok} (c_LETTERS : PySem.W.nsIn K mainGlobals "LETTERS" = some (some (.str "abcdefghijklmnopqrstuvwxyz" t_LETTERS)))
  {t_LONGEST_WORD : Tok} (c_LONGEST_WORD : PySem.W.nsIn K mainGlobals "LONGEST_WORD" = some (some (.int 8 t_LONGEST_WORD)))
  {t_MARK : Tok} (c_MARK : PySem.W.nsIn K mainGlobals "MARK" = some (some (.str "mark" t_MARK)))
  {t_MOST_COMMANDS : Tok} (c_MOST_COMMANDS : PySem.W.nsIn K mainGlobals "MOST_COMMANDS" = some (some (.int 60 t_MOST_COMMANDS)))
  {t_MOST_PARTS : Tok} (c_MOST_PARTS : PySem.W.nsIn K mainGlobals "MOST_PARTS" = some (some (.int 400 t_MOST_PARTS)))
  {t_MOST_TIMES : Tok} (c_MOST_TIMES : PySem.W.nsIn K mainGlobals "MOST_TIMES" = some (some (.int 100000000000000000000000000000000000000000000000000 t_MOST_TIMES)))
  {t_SET : Tok} (c_SET : PySem.W.nsIn K mainGlobals "SET" = some (some (.str "set" t_SET)))
  {C_InvalidScript : Addr} (xa_InvalidScript : PySem.W.nsIn K mainGlobals "InvalidScript" = some (some (.ref C_InvalidScript)))
  {C_InvalidPlan : Addr} (xa_InvalidPlan : PySem.W.nsIn K mainGlobals "InvalidPlan" = some (some (.ref C_InvalidPlan)))
  {C_InvalidTimes : Addr} (xa_InvalidTimes : PySem.W.nsIn K mainGlobals "InvalidTimes" = some (some (.ref C_InvalidTimes)))
  {C_TooLong : Addr} (xa_TooLong : PySem.W.nsIn K mainGlobals "TooLong" = some (some (.ref C_TooLong)))
  {fI_InvalidScript : Addr} (xi_InvalidScript : PySem.W.findIn K (.ref C_InvalidScript) "__init__" = some (some (.ref fI_InvalidScript)))
  {xod_InvalidScript xan_InvalidScript : Option Addr} {xsl_InvalidScript : Array (Option Value)} {xoc_InvalidScript xkV_InvalidScript xdc_InvalidScript xpm_InvalidScript xcd_InvalidScript xct_InvalidScript : Value}
  (xl_InvalidScript : K.lookup fI_InvalidScript = some ⟨xoc_InvalidScript, xod_InvalidScript, .func (PySem.W.fnOf "__init__" "InvalidScript.__init__" (defArgs (clsDef (topS 2) 0)) (defBody (clsDef (topS 2) 0)) (defScope (clsDef (topS 2) 0)) .none xkV_InvalidScript xdc_InvalidScript xpm_InvalidScript xan_InvalidScript xcd_InvalidScript xct_InvalidScript), xsl_InvalidScript⟩)
  (xe_InvalidScript : PySem.W.codeIn K xcd_InvalidScript "InvalidScript.__init__" = true)
  (xk_InvalidScript : PySem.W.keepIn K (.ref fI_InvalidScript) = true)
  (xt_InvalidScript : PySem.W.typeIn K (.ref fI_InvalidScript) = some (.type "function"))
  (xb_InvalidScript : oexChk K C_InvalidScript [.type "ValueError", .type "Exception", .type "BaseException", .type "object"] "ValueError.__new__" "index" = true)
  (xb_InvalidPlan : oex0Chk K C_InvalidPlan [.type "ValueError", .type "Exception", .type "BaseException", .type "object"] "ValueError.__new__" = true)
  {fI_InvalidTimes : Addr} (xi_InvalidTimes : PySem.W.findIn K (.ref C_InvalidTimes) "__init__" = some (some (.ref fI_InvalidTimes)))
  {xod_InvalidTimes xan_InvalidTimes : Option Addr} {xsl_InvalidTimes : Array (Option Value)} {xoc_InvalidTimes xkV_InvalidTimes xdc_InvalidTimes xpm_InvalidTimes xcd_InvalidTimes xct_InvalidTimes : Value}
  (xl_InvalidTimes : K.lookup fI_InvalidTimes = some ⟨xoc_InvalidTimes, xod_InvalidTimes, .func (PySem.W.fnOf "__init__" "InvalidTimes.__init__" (defArgs (clsDef (topS 4) 0)) (defBody (clsDef (topS 4) 0)) (defScope (clsDef (topS 4) 0)) .none xkV_InvalidTimes xdc_InvalidTimes xpm_InvalidTimes xan_InvalidTimes xcd_InvalidTimes xct_InvalidTimes), xsl_InvalidTimes⟩)
  (xe_InvalidTimes : PySem.W.codeIn K xcd_InvalidTimes "InvalidTimes.__init__" = true)
  (xk_InvalidTimes : PySem.W.keepIn K (.ref fI_InvalidTimes) = true)
  (xt_InvalidTimes : PySem.W.typeIn K (.ref fI_InvalidTimes) = some (.type "function"))
  (xb_InvalidTimes : oexChk K C_InvalidTimes [.type "ValueError", .type "Exception", .type "BaseException", .type "object"] "ValueError.__new__" "number" = true)
  {fI_TooLong : Addr} (xi_TooLong : PySem.W.findIn K (.ref C_TooLong) "__init__" = some (some (.ref fI_TooLong)))
  {xod_TooLong xan_TooLong : Option Addr} {xsl_TooLong : Array (Option Value)} {xoc_TooLong xkV_TooLong xdc_TooLong xpm_TooLong xcd_TooLong xct_TooLong : Value}
  (xl_TooLong : K.lookup fI_TooLong = some ⟨xoc_TooLong, xod_TooLong, .func (PySem.W.fnOf "__init__" "TooLong.__init__" (defArgs (clsDef (topS 6) 0)) (defBody (clsDef (topS 6) 0)) (defScope (clsDef (topS 6) 0)) .none xkV_TooLong xdc_TooLong xpm_TooLong xan_TooLong xcd_TooLong xct_TooLong), xsl_TooLong⟩)
  (xe_TooLong : PySem.W.codeIn K xcd_TooLong "TooLong.__init__" = true)
  (xk_TooLong : PySem.W.keepIn K (.ref fI_TooLong) = true)
  (xt_TooLong : PySem.W.typeIn K (.ref fI_TooLong) = some (.type "function"))
  (xb_TooLong : oexChk K C_TooLong [.type "OverflowError", .type "ArithmeticError", .type "Exception", .type "BaseException", .type "object"] "OverflowError.__new__" "most" = true)
  (xch : errChk K errT [(Str.ofString "InvalidScript", C_InvalidScript), (Str.ofString "InvalidPlan", C_InvalidPlan), (Str.ofString "InvalidTimes", C_InvalidTimes), (Str.ofString "TooLong", C_TooLong)] [] = true)
  {C_Plan : Addr} (xa_Plan : PySem.W.nsIn K mainGlobals "Plan" = some (some (.ref C_Plan)))
  (xb_Plan : insChk K C_Plan "own_parts" = true)
  (xb_me_Plan : (PySem.W.kitOne K (.ref C_Plan) (.ref C_Plan) == some true) = true)
  (xb_sf_Plan : PySem.W.selfFirst K C_Plan = true)
  (xm_ne_Plan : PySem.W.findIn K (.ref C_Plan) "__ne__" = some (some (.builtin "object.__ne__")))
  {f_Plan_init : Addr} (xm_Plan_init : PySem.W.findIn K (.ref C_Plan) "__init__" = some (some (.ref f_Plan_init)))
  {od_Plan_init an_Plan_init : Option Addr} {sl_Plan_init : Array (Option Value)} {oc_Plan_init kV_Plan_init dc_Plan_init pm_Plan_init cd_Plan_init ct_Plan_init : Value}
  {dT_Plan_init : Addr}
  (l_Plan_init : K.lookup f_Plan_init = some ⟨oc_Plan_init, od_Plan_init, .func (PySem.W.fnOf "__init__" "Plan.__init__" (defArgs (s_Plan_init)) (defBody (s_Plan_init)) (defScope (s_Plan_init)) (.ref dT_Plan_init) kV_Plan_init dc_Plan_init pm_Plan_init an_Plan_init cd_Plan_init ct_Plan_init), sl_Plan_init⟩)
  (e_Plan_init : PySem.W.codeIn K cd_Plan_init "Plan.__init__" = true)
  {doc_Plan_init : Value} {dod_Plan_init : Option Addr} {dn_Plan_init : Nat} {dsl_Plan_init : Array (Option Value)} {dv0_Plan_init dv1_Plan_init dv2_Plan_init dv3_Plan_init : Value} (dl_Plan_init : K.lookup dT_Plan_init = some ⟨doc_Plan_init, dod_Plan_init, .seq #[dv0_Plan_init, dv1_Plan_init, dv2_Plan_init, dv3_Plan_init] dn_Plan_init, dsl_Plan_init⟩)
  {dta_0_Plan_init : Addr} (tv_dt0_Plan_init : dv0_Plan_init = .ref dta_0_Plan_init) {dtn_0_Plan_init : Nat} {dts_0_Plan_init : Array (Option Value)} (dtl_0_Plan_init : K.lookup dta_0_Plan_init = some ⟨.type "tuple", none, .seq #[] dtn_0_Plan_init, dts_0_Plan_init⟩)
  {dtk_1_Plan_init : Tok} (tv_dt1_Plan_init : dv1_Plan_init = .int 0 dtk_1_Plan_init)
  {dta_2_Plan_init : Addr} (tv_dt2_Plan_init : dv2_Plan_init = .ref dta_2_Plan_init) {dtn_2_Plan_init : Nat} {dts_2_Plan_init : Array (Option Value)} (dtl_2_Plan_init : K.lookup dta_2_Plan_init = some ⟨.type "tuple", none, .seq #[] dtn_2_Plan_init, dts_2_Plan_init⟩)
  {dta_3_Plan_init : Addr} (tv_dt3_Plan_init : dv3_Plan_init = .ref dta_3_Plan_init) {dtn_3_Plan_init : Nat} {dts_3_Plan_init : Array (Option Value)} (dtl_3_Plan_init : K.lookup dta_3_Plan_init = some ⟨.type "tuple", none, .seq #[] dtn_3_Plan_init, dts_3_Plan_init⟩)
  (xb_Plan_init : mkChk K C_Plan f_Plan_init = true)
  {p_Plan_of : Addr} (xm_Plan_of : PySem.W.findIn K (.ref C_Plan) "of" = some (some (.ref p_Plan_of)))
  {rod_Plan_of : Option Addr} {rvs_Plan_of : Array Value} {rsl_Plan_of : Array (Option Value)} (rl_Plan_of : K.lookup p_Plan_of = some ⟨.type "classmethod", rod_Plan_of, .fields rvs_Plan_of, rsl_Plan_of⟩)
  {f_Plan_of : Addr} {rs_Plan_of : List Value} (tv_Plan_of : rvs_Plan_of.toList = .ref f_Plan_of :: rs_Plan_of)
  {od_Plan_of an_Plan_of : Option Addr} {sl_Plan_of : Array (Option Value)} {oc_Plan_of kV_Plan_of dc_Plan_of pm_Plan_of cd_Plan_of ct_Plan_of : Value}
  (l_Plan_of : K.lookup f_Plan_of = some ⟨oc_Plan_of, od_Plan_of, .func (PySem.W.fnOf "of" "Plan.of" (defArgs (s_Plan_of)) (defBody (s_Plan_of)) (defScope (s_Plan_of)) .none kV_Plan_of dc_Plan_of pm_Plan_of an_Plan_of cd_Plan_of ct_Plan_of), sl_Plan_of⟩)
  (e_Plan_of : PySem.W.codeIn K cd_Plan_of "Plan.of" = true)
  (k_Plan_of : PySem.W.keepIn K (.ref f_Plan_of) = true)
  (xb_Plan_of : cmChk K C_Plan "of" p_Plan_of f_Plan_of = true)
  {p_Plan_pattern : Addr} (xm_Plan_pattern : PySem.W.findIn K (.ref C_Plan) "pattern" = some (some (.ref p_Plan_pattern)))
  {rod_Plan_pattern : Option Addr} {rvs_Plan_pattern : Array Value} {rsl_Plan_pattern : Array (Option Value)} (rl_Plan_pattern : K.lookup p_Plan_pattern = some ⟨.type "property", rod_Plan_pattern, .fields rvs_Plan_pattern, rsl_Plan_pattern⟩)
  {f_Plan_pattern : Addr} {rs_Plan_pattern : List Value} (tv_Plan_pattern : rvs_Plan_pattern.toList = .ref f_Plan_pattern :: rs_Plan_pattern)
  {od_Plan_pattern an_Plan_pattern : Option Addr} {sl_Plan_pattern : Array (Option Value)} {oc_Plan_pattern kV_Plan_pattern dc_Plan_pattern pm_Plan_pattern cd_Plan_pattern ct_Plan_pattern : Value}
  (l_Plan_pattern : K.lookup f_Plan_pattern = some ⟨oc_Plan_pattern, od_Plan_pattern, .func (PySem.W.fnOf "pattern" "Plan.pattern" (defArgs (s_Plan_pattern)) (defBody (s_Plan_pattern)) (defScope (s_Plan_pattern)) .none kV_Plan_pattern dc_Plan_pattern pm_Plan_pattern an_Plan_pattern cd_Plan_pattern ct_Plan_pattern), sl_Plan_pattern⟩)
  (e_Plan_pattern : PySem.W.codeIn K cd_Plan_pattern "Plan.pattern" = true)
  (k_Plan_pattern : PySem.W.keepIn K (.ref f_Plan_pattern) = true)
  (xb_Plan_pattern : prChk K p_Plan_pattern = true)
  {p_Plan_source : Addr} (xm_Plan_source : PySem.W.findIn K (.ref C_Plan) "source" = some (some (.ref p_Plan_source)))
  {rod_Plan_source : Option Addr} {rvs_Plan_source : Array Value} {rsl_Plan_source : Array (Option Value)} (rl_Plan_source : K.lookup p_Plan_source = some ⟨.type "property", rod_Plan_source, .fields rvs_Plan_source, rsl_Plan_source⟩)
  {f_Plan_source : Addr} {rs_Plan_source : List Value} (tv_Plan_source : rvs_Plan_source.toList = .ref f_Plan_source :: rs_Plan_source)
  {od_Plan_source an_Plan_source : Option Addr} {sl_Plan_source : Array (Option Value)} {oc_Plan_source kV_Plan_source dc_Plan_source pm_Plan_source cd_Plan_source ct_Plan_source : Value}
  (l_Plan_source : K.lookup f_Plan_source = some ⟨oc_Plan_source, od_Plan_source, .func (PySem.W.fnOf "source" "Plan.source" (defArgs (s_Plan_source)) (defBody (s_Plan_source)) (defScope (s_Plan_source)) .none kV_Plan_source dc_Plan_source pm_Plan_source an_Plan_source cd_Plan_source ct_Plan_source), sl_Plan_source⟩)
  (e_Plan_source : PySem.W.codeIn K cd_Plan_source "Plan.source" = true)
  (k_Plan_source : PySem.W.keepIn K (.ref f_Plan_source) = true)
  (xb_Plan_source : prChk K p_Plan_source = true)
  {p_Plan_frames : Addr} (xm_Plan_frames : PySem.W.findIn K (.ref C_Plan) "frames" = some (some (.ref p_Plan_frames)))
  {rod_Plan_frames : Option Addr} {rvs_Plan_frames : Array Value} {rsl_Plan_frames : Array (Option Value)} (rl_Plan_frames : K.lookup p_Plan_frames = some ⟨.type "property", rod_Plan_frames, .fields rvs_Plan_frames, rsl_Plan_frames⟩)
  {f_Plan_frames : Addr} {rs_Plan_frames : List Value} (tv_Plan_frames : rvs_Plan_frames.toList = .ref f_Plan_frames :: rs_Plan_frames)
  {od_Plan_frames an_Plan_frames : Option Addr} {sl_Plan_frames : Array (Option Value)} {oc_Plan_frames kV_Plan_frames dc_Plan_frames pm_Plan_frames cd_Plan_frames ct_Plan_frames : Value}
  (l_Plan_frames : K.lookup f_Plan_frames = some ⟨oc_Plan_frames, od_Plan_frames, .func (PySem.W.fnOf "frames" "Plan.frames" (defArgs (s_Plan_frames)) (defBody (s_Plan_frames)) (defScope (s_Plan_frames)) .none kV_Plan_frames dc_Plan_frames pm_Plan_frames an_Plan_frames cd_Plan_frames ct_Plan_frames), sl_Plan_frames⟩)
  (e_Plan_frames : PySem.W.codeIn K cd_Plan_frames "Plan.frames" = true)
  (k_Plan_frames : PySem.W.keepIn K (.ref f_Plan_frames) = true)
  (xb_Plan_frames : prChk K p_Plan_frames = true)
  {p_Plan_writes : Addr} (xm_Plan_writes : PySem.W.findIn K (.ref C_Plan) "writes" = some (some (.ref p_Plan_writes)))
  {rod_Plan_writes : Option Addr} {rvs_Plan_writes : Array Value} {rsl_Plan_writes : Array (Option Value)} (rl_Plan_writes : K.lookup p_Plan_writes = some ⟨.type "property", rod_Plan_writes, .fields rvs_Plan_writes, rsl_Plan_writes⟩)
  {f_Plan_writes : Addr} {rs_Plan_writes : List Value} (tv_Plan_writes : rvs_Plan_writes.toList = .ref f_Plan_writes :: rs_Plan_writes)
  {od_Plan_writes an_Plan_writes : Option Addr} {sl_Plan_writes : Array (Option Value)} {oc_Plan_writes kV_Plan_writes dc_Plan_writes pm_Plan_writes cd_Plan_writes ct_Plan_writes : Value}
  (l_Plan_writes : K.lookup f_Plan_writes = some ⟨oc_Plan_writes, od_Plan_writes, .func (PySem.W.fnOf "writes" "Plan.writes" (defArgs (s_Plan_writes)) (defBody (s_Plan_writes)) (defScope (s_Plan_writes)) .none kV_Plan_writes dc_Plan_writes pm_Plan_writes an_Plan_writes cd_Plan_writes ct_Plan_writes), sl_Plan_writes⟩)
  (e_Plan_writes : PySem.W.codeIn K cd_Plan_writes "Plan.writes" = true)
  (k_Plan_writes : PySem.W.keepIn K (.ref f_Plan_writes) = true)
  (xb_Plan_writes : prChk K p_Plan_writes = true)
  {f_Plan_mul : Addr} (xm_Plan_mul : PySem.W.findIn K (.ref C_Plan) "__mul__" = some (some (.ref f_Plan_mul)))
  {od_Plan_mul an_Plan_mul : Option Addr} {sl_Plan_mul : Array (Option Value)} {oc_Plan_mul kV_Plan_mul dc_Plan_mul pm_Plan_mul cd_Plan_mul ct_Plan_mul : Value}
  (l_Plan_mul : K.lookup f_Plan_mul = some ⟨oc_Plan_mul, od_Plan_mul, .func (PySem.W.fnOf "__mul__" "Plan.__mul__" (defArgs (s_Plan_mul)) (defBody (s_Plan_mul)) (defScope (s_Plan_mul)) .none kV_Plan_mul dc_Plan_mul pm_Plan_mul an_Plan_mul cd_Plan_mul ct_Plan_mul), sl_Plan_mul⟩)
  (e_Plan_mul : PySem.W.codeIn K cd_Plan_mul "Plan.__mul__" = true)
  (k_Plan_mul : PySem.W.keepIn K (.ref f_Plan_mul) = true)
  (xb_Plan_mul : coChk K f_Plan_mul = true)
  {f_Plan_eq : Addr} (xm_Plan_eq : PySem.W.findIn K (.ref C_Plan) "__eq__" = some (some (.ref f_Plan_eq)))
  {od_Plan_eq an_Plan_eq : Option Addr} {sl_Plan_eq : Array (Option Value)} {oc_Plan_eq kV_Plan_eq dc_Plan_eq pm_Plan_eq cd_Plan_eq ct_Plan_eq : Value}
  (l_Plan_eq : K.lookup f_Plan_eq = some ⟨oc_Plan_eq, od_Plan_eq, .func (PySem.W.fnOf "__eq__" "Plan.__eq__" (defArgs (s_Plan_eq)) (defBody (s_Plan_eq)) (defScope (s_Plan_eq)) .none kV_Plan_eq dc_Plan_eq pm_Plan_eq an_Plan_eq cd_Plan_eq ct_Plan_eq), sl_Plan_eq⟩)
  (e_Plan_eq : PySem.W.codeIn K cd_Plan_eq "Plan.__eq__" = true)
  (k_Plan_eq : PySem.W.keepIn K (.ref f_Plan_eq) = true)
  (xb_Plan_eq : coChk K f_Plan_eq = true)
  {f_is_integer : Addr} {od_is_integer an_is_integer : Option Addr} {sl_is_integer : Array (Option Value)} {oc_is_integer kV_is_integer dc_is_integer pm_is_integer cd_is_integer ct_is_integer : Value}
  (a_is_integer : PySem.W.nsIn K mainGlobals "is_integer" = some (some (.ref f_is_integer)))
  (l_is_integer : K.lookup f_is_integer = some ⟨oc_is_integer, od_is_integer, .func (PySem.W.fnOf "is_integer" "is_integer" (defArgs s_is_integer) (defBody s_is_integer) (defScope s_is_integer) .none kV_is_integer dc_is_integer pm_is_integer an_is_integer cd_is_integer ct_is_integer), sl_is_integer⟩)
  (e_is_integer : PySem.W.codeIn K cd_is_integer "is_integer" = true)
  (k_is_integer : PySem.W.keepIn K (.ref f_is_integer) = true)
  {f_is_between : Addr} {od_is_between an_is_between : Option Addr} {sl_is_between : Array (Option Value)} {oc_is_between kV_is_between dc_is_between pm_is_between cd_is_between ct_is_between : Value}
  (a_is_between : PySem.W.nsIn K mainGlobals "is_between" = some (some (.ref f_is_between)))
  (l_is_between : K.lookup f_is_between = some ⟨oc_is_between, od_is_between, .func (PySem.W.fnOf "is_between" "is_between" (defArgs s_is_between) (defBody s_is_between) (defScope s_is_between) .none kV_is_between dc_is_between pm_is_between an_is_between cd_is_between ct_is_between), sl_is_between⟩)
  (e_is_between : PySem.W.codeIn K cd_is_between "is_between" = true)
  (k_is_between : PySem.W.keepIn K (.ref f_is_between) = true)
  {f_is_word : Addr} {od_is_word an_is_word : Option Addr} {sl_is_word : Array (Option Value)} {oc_is_word kV_is_word dc_is_word pm_is_word cd_is_word ct_is_word : Value}
  (a_is_word : PySem.W.nsIn K mainGlobals "is_word" = some (some (.ref f_is_word)))
  (l_is_word : K.lookup f_is_word = some ⟨oc_is_word, od_is_word, .func (PySem.W.fnOf "is_word" "is_word" (defArgs s_is_word) (defBody s_is_word) (defScope s_is_word) .none kV_is_word dc_is_word pm_is_word an_is_word cd_is_word ct_is_word), sl_is_word⟩)
  (e_is_word : PySem.W.codeIn K cd_is_word "is_word" = true)
  (k_is_word : PySem.W.keepIn K (.ref f_is_word) = true)
  {f_is_value : Addr} {od_is_value an_is_value : Option Addr} {sl_is_value : Array (Option Value)} {oc_is_value kV_is_value dc_is_value pm_is_value cd_is_value ct_is_value : Value}
  (a_is_value : PySem.W.nsIn K mainGlobals "is_value" = some (some (.ref f_is_value)))
  (l_is_value : K.lookup f_is_value = some ⟨oc_is_value, od_is_value, .func (PySem.W.fnOf "is_value" "is_value" (defArgs s_is_value) (defBody s_is_value) (defScope s_is_value) .none kV_is_value dc_is_value pm_is_value an_is_value cd_is_value ct_is_value), sl_is_value⟩)
  (e_is_value : PySem.W.codeIn K cd_is_value "is_value" = true)
  (k_is_value : PySem.W.keepIn K (.ref f_is_value) = true)
  {f_are_pairs : Addr} {od_are_pairs an_are_pairs : Option Addr} {sl_are_pairs : Array (Option Value)} {oc_are_pairs kV_are_pairs dc_are_pairs pm_are_pairs cd_are_pairs ct_are_pairs : Value}
  (a_are_pairs : PySem.W.nsIn K mainGlobals "are_pairs" = some (some (.ref f_are_pairs)))
  (l_are_pairs : K.lookup f_are_pairs = some ⟨oc_are_pairs, od_are_pairs, .func (PySem.W.fnOf "are_pairs" "are_pairs" (defArgs s_are_pairs) (defBody s_are_pairs) (defScope s_are_pairs) .none kV_are_pairs dc_are_pairs pm_are_pairs an_are_pairs cd_are_pairs ct_are_pairs), sl_are_pairs⟩)
  (e_are_pairs : PySem.W.codeIn K cd_are_pairs "are_pairs" = true)
  (k_are_pairs : PySem.W.keepIn K (.ref f_are_pairs) = true)
  {f_is_map : Addr} {od_is_map an_is_map : Option Addr} {sl_is_map : Array (Option Value)} {oc_is_map kV_is_map dc_is_map pm_is_map cd_is_map ct_is_map : Value}
  (a_is_map : PySem.W.nsIn K mainGlobals "is_map" = some (some (.ref f_is_map)))
  (l_is_map : K.lookup f_is_map = some ⟨oc_is_map, od_is_map, .func (PySem.W.fnOf "is_map" "is_map" (defArgs s_is_map) (defBody s_is_map) (defScope s_is_map) .none kV_is_map dc_is_map pm_is_map an_is_map cd_is_map ct_is_map), sl_is_map⟩)
  (e_is_map : PySem.W.codeIn K cd_is_map "is_map" = true)
  (k_is_map : PySem.W.keepIn K (.ref f_is_map) = true)
  {f_pairs_of : Addr} {od_pairs_of an_pairs_of : Option Addr} {sl_pairs_of : Array (Option Value)} {oc_pairs_of kV_pairs_of dc_pairs_of pm_pairs_of cd_pairs_of ct_pairs_of : Value}
  (a_pairs_of : PySem.W.nsIn K mainGlobals "pairs_of" = some (some (.ref f_pairs_of)))
  (l_pairs_of : K.lookup f_pairs_of = some ⟨oc_pairs_of, od_pairs_of, .func (PySem.W.fnOf "pairs_of" "pairs_of" (defArgs s_pairs_of) (defBody s_pairs_of) (defScope s_pairs_of) .none kV_pairs_of dc_pairs_of pm_pairs_of an_pairs_of cd_pairs_of ct_pairs_of), sl_pairs_of⟩)
  (e_pairs_of : PySem.W.codeIn K cd_pairs_of "pairs_of" = true)
  (k_pairs_of : PySem.W.keepIn K (.ref f_pairs_of) = true)
  {f_overlaid : Addr} {od_overlaid an_overlaid : Option Addr} {sl_overlaid : Array (Option Value)} {oc_overlaid kV_overlaid dc_overlaid pm_overlaid cd_overlaid ct_overlaid : Value}
  (a_overlaid : PySem.W.nsIn K mainGlobals "overlaid" = some (some (.ref f_overlaid)))
  (l_overlaid : K.lookup f_overlaid = some ⟨oc_overlaid, od_overlaid, .func (PySem.W.fnOf "overlaid" "overlaid" (defArgs s_overlaid) (defBody s_overlaid) (defScope s_overlaid) .none kV_overlaid dc_overlaid pm_overlaid an_overlaid cd_overlaid ct_overlaid), sl_overlaid⟩)
  (e_overlaid : PySem.W.codeIn K cd_overlaid "overlaid" = true)
  (k_overlaid : PySem.W.keepIn K (.ref f_overlaid) = true)
  {f_is_command : Addr} {od_is_command an_is_command : Option Addr} {sl_is_command : Array (Option Value)} {oc_is_command kV_is_command dc_is_command pm_is_command cd_is_command ct_is_command : Value}
  (a_is_command : PySem.W.nsIn K mainGlobals "is_command" = some (some (.ref f_is_command)))
  (l_is_command : K.lookup f_is_command = some ⟨oc_is_command, od_is_command, .func (PySem.W.fnOf "is_command" "is_command" (defArgs s_is_command) (defBody s_is_command) (defScope s_is_command) .none kV_is_command dc_is_command pm_is_command an_is_command cd_is_command ct_is_command), sl_is_command⟩)
  (e_is_command : PySem.W.codeIn K cd_is_command "is_command" = true)
  (k_is_command : PySem.W.keepIn K (.ref f_is_command) = true)
  {f_is_write : Addr} {od_is_write an_is_write : Option Addr} {sl_is_write : Array (Option Value)} {oc_is_write kV_is_write dc_is_write pm_is_write cd_is_write ct_is_write : Value}
  (a_is_write : PySem.W.nsIn K mainGlobals "is_write" = some (some (.ref f_is_write)))
  (l_is_write : K.lookup f_is_write = some ⟨oc_is_write, od_is_write, .func (PySem.W.fnOf "is_write" "is_write" (defArgs s_is_write) (defBody s_is_write) (defScope s_is_write) .none kV_is_write dc_is_write pm_is_write an_is_write cd_is_write ct_is_write), sl_is_write⟩)
  (e_is_write : PySem.W.codeIn K cd_is_write "is_write" = true)
  (k_is_write : PySem.W.keepIn K (.ref f_is_write) = true)
  {f_entry_of : Addr} {od_entry_of an_entry_of : Option Addr} {sl_entry_of : Array (Option Value)} {oc_entry_of kV_entry_of dc_entry_of pm_entry_of cd_entry_of ct_entry_of : Value}
  (a_entry_of : PySem.W.nsIn K mainGlobals "entry_of" = some (some (.ref f_entry_of)))
  (l_entry_of : K.lookup f_entry_of = some ⟨oc_entry_of, od_entry_of, .func (PySem.W.fnOf "entry_of" "entry_of" (defArgs s_entry_of) (defBody s_entry_of) (defScope s_entry_of) .none kV_entry_of dc_entry_of pm_entry_of an_entry_of cd_entry_of ct_entry_of), sl_entry_of⟩)
  (e_entry_of : PySem.W.codeIn K cd_entry_of "entry_of" = true)
  (k_entry_of : PySem.W.keepIn K (.ref f_entry_of) = true)
  {f_first_invalid : Addr} {od_first_invalid an_first_invalid : Option Addr} {sl_first_invalid : Array (Option Value)} {oc_first_invalid kV_first_invalid dc_first_invalid pm_first_invalid cd_first_invalid ct_first_invalid : Value}
  (a_first_invalid : PySem.W.nsIn K mainGlobals "first_invalid" = some (some (.ref f_first_invalid)))
  (l_first_invalid : K.lookup f_first_invalid = some ⟨oc_first_invalid, od_first_invalid, .func (PySem.W.fnOf "first_invalid" "first_invalid" (defArgs s_first_invalid) (defBody s_first_invalid) (defScope s_first_invalid) .none kV_first_invalid dc_first_invalid pm_first_invalid an_first_invalid cd_first_invalid ct_first_invalid), sl_first_invalid⟩)
  (e_first_invalid : PySem.W.codeIn K cd_first_invalid "first_invalid" = true)
  (k_first_invalid : PySem.W.keepIn K (.ref f_first_invalid) = true)
  {f_need_script : Addr} {od_need_script an_need_script : Option Addr} {sl_need_script : Array (Option Value)} {oc_need_script kV_need_script dc_need_script pm_need_script cd_need_script ct_need_script : Value}
  (a_need_script : PySem.W.nsIn K mainGlobals "need_script" = some (some (.ref f_need_script)))
  (l_need_script : K.lookup f_need_script = some ⟨oc_need_script, od_need_script, .func (PySem.W.fnOf "need_script" "need_script" (defArgs s_need_script) (defBody s_need_script) (defScope s_need_script) .none kV_need_script dc_need_script pm_need_script an_need_script cd_need_script ct_need_script), sl_need_script⟩)
  (e_need_script : PySem.W.codeIn K cd_need_script "need_script" = true)
  (k_need_script : PySem.W.keepIn K (.ref f_need_script) = true)
  {f_places_in : Addr} {od_places_in an_places_in : Option Addr} {sl_places_in : Array (Option Value)} {oc_places_in kV_places_in dc_places_in pm_places_in cd_places_in ct_places_in : Value}
  (a_places_in : PySem.W.nsIn K mainGlobals "places_in" = some (some (.ref f_places_in)))
  (l_places_in : K.lookup f_places_in = some ⟨oc_places_in, od_places_in, .func (PySem.W.fnOf "places_in" "places_in" (defArgs s_places_in) (defBody s_places_in) (defScope s_places_in) .none kV_places_in dc_places_in pm_places_in an_places_in cd_places_in ct_places_in), sl_places_in⟩)
  (e_places_in : PySem.W.codeIn K cd_places_in "places_in" = true)
  (k_places_in : PySem.W.keepIn K (.ref f_places_in) = true)
  {f_nearest_place : Addr} {od_nearest_place an_nearest_place : Option Addr} {sl_nearest_place : Array (Option Value)} {oc_nearest_place kV_nearest_place dc_nearest_place pm_nearest_place cd_nearest_place ct_nearest_place : Value}
  (a_nearest_place : PySem.W.nsIn K mainGlobals "nearest_place" = some (some (.ref f_nearest_place)))
  (l_nearest_place : K.lookup f_nearest_place = some ⟨oc_nearest_place, od_nearest_place, .func (PySem.W.fnOf "nearest_place" "nearest_place" (defArgs s_nearest_place) (defBody s_nearest_place) (defScope s_nearest_place) .none kV_nearest_place dc_nearest_place pm_nearest_place an_nearest_place cd_nearest_place ct_nearest_place), sl_nearest_place⟩)
  (e_nearest_place : PySem.W.codeIn K cd_nearest_place "nearest_place" = true)
  (k_nearest_place : PySem.W.keepIn K (.ref f_nearest_place) = true)
  {f_extended : Addr} {od_extended an_extended : Option Addr} {sl_extended : Array (Option Value)} {oc_extended kV_extended dc_extended pm_extended cd_extended ct_extended : Value}
  (a_extended : PySem.W.nsIn K mainGlobals "extended" = some (some (.ref f_extended)))
  (l_extended : K.lookup f_extended = some ⟨oc_extended, od_extended, .func (PySem.W.fnOf "extended" "extended" (defArgs s_extended) (defBody s_extended) (defScope s_extended) .none kV_extended dc_extended pm_extended an_extended cd_extended ct_extended), sl_extended⟩)
  (e_extended : PySem.W.codeIn K cd_extended "extended" = true)
  (k_extended : PySem.W.keepIn K (.ref f_extended) = true)
  {f_own_places : Addr} {od_own_places an_own_places : Option Addr} {sl_own_places : Array (Option Value)} {oc_own_places kV_own_places dc_own_places pm_own_places cd_own_places ct_own_places : Value}
  (a_own_places : PySem.W.nsIn K mainGlobals "own_places" = some (some (.ref f_own_places)))
  (l_own_places : K.lookup f_own_places = some ⟨oc_own_places, od_own_places, .func (PySem.W.fnOf "own_places" "own_places" (defArgs s_own_places) (defBody s_own_places) (defScope s_own_places) .none kV_own_places dc_own_places pm_own_places an_own_places cd_own_places ct_own_places), sl_own_places⟩)
  (e_own_places : PySem.W.codeIn K cd_own_places "own_places" = true)
  (k_own_places : PySem.W.keepIn K (.ref f_own_places) = true)
  {f_inner_map : Addr} {od_inner_map an_inner_map : Option Addr} {sl_inner_map : Array (Option Value)} {oc_inner_map kV_inner_map dc_inner_map pm_inner_map cd_inner_map ct_inner_map : Value}
  (a_inner_map : PySem.W.nsIn K mainGlobals "inner_map" = some (some (.ref f_inner_map)))
  (l_inner_map : K.lookup f_inner_map = some ⟨oc_inner_map, od_inner_map, .func (PySem.W.fnOf "inner_map" "inner_map" (defArgs s_inner_map) (defBody s_inner_map) (defScope s_inner_map) .none kV_inner_map dc_inner_map pm_inner_map an_inner_map cd_inner_map ct_inner_map), sl_inner_map⟩)
  (e_inner_map : PySem.W.codeIn K cd_inner_map "inner_map" = true)
  (k_inner_map : PySem.W.keepIn K (.ref f_inner_map) = true)
  {f_frames_over : Addr} {od_frames_over an_frames_over : Option Addr} {sl_frames_over : Array (Option Value)} {oc_frames_over kV_frames_over dc_frames_over pm_frames_over cd_frames_over ct_frames_over : Value}
  (a_frames_over : PySem.W.nsIn K mainGlobals "frames_over" = some (some (.ref f_frames_over)))
  (l_frames_over : K.lookup f_frames_over = some ⟨oc_frames_over, od_frames_over, .func (PySem.W.fnOf "frames_over" "frames_over" (defArgs s_frames_over) (defBody s_frames_over) (defScope s_frames_over) .none kV_frames_over dc_frames_over pm_frames_over an_frames_over cd_frames_over ct_frames_over), sl_frames_over⟩)
  (e_frames_over : PySem.W.codeIn K cd_frames_over "frames_over" = true)
  (k_frames_over : PySem.W.keepIn K (.ref f_frames_over) = true)
  {f_composed : Addr} {od_composed an_composed : Option Addr} {sl_composed : Array (Option Value)} {oc_composed kV_composed dc_composed pm_composed cd_composed ct_composed : Value}
  (a_composed : PySem.W.nsIn K mainGlobals "composed" = some (some (.ref f_composed)))
  (l_composed : K.lookup f_composed = some ⟨oc_composed, od_composed, .func (PySem.W.fnOf "composed" "composed" (defArgs s_composed) (defBody s_composed) (defScope s_composed) .none kV_composed dc_composed pm_composed an_composed cd_composed ct_composed), sl_composed⟩)
  (e_composed : PySem.W.codeIn K cd_composed "composed" = true)
  (k_composed : PySem.W.keepIn K (.ref f_composed) = true)
  {f_is_frame : Addr} {od_is_frame an_is_frame : Option Addr} {sl_is_frame : Array (Option Value)} {oc_is_frame kV_is_frame dc_is_frame pm_is_frame cd_is_frame ct_is_frame : Value}
  (a_is_frame : PySem.W.nsIn K mainGlobals "is_frame" = some (some (.ref f_is_frame)))
  (l_is_frame : K.lookup f_is_frame = some ⟨oc_is_frame, od_is_frame, .func (PySem.W.fnOf "is_frame" "is_frame" (defArgs s_is_frame) (defBody s_is_frame) (defScope s_is_frame) .none kV_is_frame dc_is_frame pm_is_frame an_is_frame cd_is_frame ct_is_frame), sl_is_frame⟩)
  (e_is_frame : PySem.W.codeIn K cd_is_frame "is_frame" = true)
  (k_is_frame : PySem.W.keepIn K (.ref f_is_frame) = true)
  {f_are_nested : Addr} {od_are_nested an_are_nested : Option Addr} {sl_are_nested : Array (Option Value)} {oc_are_nested kV_are_nested dc_are_nested pm_are_nested cd_are_nested ct_are_nested : Value}
  (a_are_nested : PySem.W.nsIn K mainGlobals "are_nested" = some (some (.ref f_are_nested)))
  (l_are_nested : K.lookup f_are_nested = some ⟨oc_are_nested, od_are_nested, .func (PySem.W.fnOf "are_nested" "are_nested" (defArgs s_are_nested) (defBody s_are_nested) (defScope s_are_nested) .none kV_are_nested dc_are_nested pm_are_nested an_are_nested cd_are_nested ct_are_nested), sl_are_nested⟩)
  (e_are_nested : PySem.W.codeIn K cd_are_nested "are_nested" = true)
  (k_are_nested : PySem.W.keepIn K (.ref f_are_nested) = true)
  {f_are_parts : Addr} {od_are_parts an_are_parts : Option Addr} {sl_are_parts : Array (Option Value)} {oc_are_parts kV_are_parts dc_are_parts pm_are_parts cd_are_parts ct_are_parts : Value}
  (a_are_parts : PySem.W.nsIn K mainGlobals "are_parts" = some (some (.ref f_are_parts)))
  (l_are_parts : K.lookup f_are_parts = some ⟨oc_are_parts, od_are_parts, .func (PySem.W.fnOf "are_parts" "are_parts" (defArgs s_are_parts) (defBody s_are_parts) (defScope s_are_parts) .none kV_are_parts dc_are_parts pm_are_parts an_are_parts cd_are_parts ct_are_parts), sl_are_parts⟩)
  (e_are_parts : PySem.W.codeIn K cd_are_parts "are_parts" = true)
  (k_are_parts : PySem.W.keepIn K (.ref f_are_parts) = true)
  {f_own_matches : Addr} {od_own_matches an_own_matches : Option Addr} {sl_own_matches : Array (Option Value)} {oc_own_matches kV_own_matches dc_own_matches pm_own_matches cd_own_matches ct_own_matches : Value}
  (a_own_matches : PySem.W.nsIn K mainGlobals "own_matches" = some (some (.ref f_own_matches)))
  (l_own_matches : K.lookup f_own_matches = some ⟨oc_own_matches, od_own_matches, .func (PySem.W.fnOf "own_matches" "own_matches" (defArgs s_own_matches) (defBody s_own_matches) (defScope s_own_matches) .none kV_own_matches dc_own_matches pm_own_matches an_own_matches cd_own_matches ct_own_matches), sl_own_matches⟩)
  (e_own_matches : PySem.W.codeIn K cd_own_matches "own_matches" = true)
  (k_own_matches : PySem.W.keepIn K (.ref f_own_matches) = true)
  {f_need_times : Addr} {od_need_times an_need_times : Option Addr} {sl_need_times : Array (Option Value)} {oc_need_times kV_need_times dc_need_times pm_need_times cd_need_times ct_need_times : Value}
  (a_need_times : PySem.W.nsIn K mainGlobals "need_times" = some (some (.ref f_need_times)))
  (l_need_times : K.lookup f_need_times = some ⟨oc_need_times, od_need_times, .func (PySem.W.fnOf "need_times" "need_times" (defArgs s_need_times) (defBody s_need_times) (defScope s_need_times) .none kV_need_times dc_need_times pm_need_times an_need_times cd_need_times ct_need_times), sl_need_times⟩)
  (e_need_times : PySem.W.codeIn K cd_need_times "need_times" = true)
  (k_need_times : PySem.W.keepIn K (.ref f_need_times) = true)
  {f_frames_kept : Addr} {od_frames_kept an_frames_kept : Option Addr} {sl_frames_kept : Array (Option Value)} {oc_frames_kept kV_frames_kept dc_frames_kept pm_frames_kept cd_frames_kept ct_frames_kept : Value}
  (a_frames_kept : PySem.W.nsIn K mainGlobals "frames_kept" = some (some (.ref f_frames_kept)))
  (l_frames_kept : K.lookup f_frames_kept = some ⟨oc_frames_kept, od_frames_kept, .func (PySem.W.fnOf "frames_kept" "frames_kept" (defArgs s_frames_kept) (defBody s_frames_kept) (defScope s_frames_kept) .none kV_frames_kept dc_frames_kept pm_frames_kept an_frames_kept cd_frames_kept ct_frames_kept), sl_frames_kept⟩)
  (e_frames_kept : PySem.W.codeIn K cd_frames_kept "frames_kept" = true)
  (k_frames_kept : PySem.W.keepIn K (.ref f_frames_kept) = true)
  {f_inner_of : Addr} {od_inner_of an_inner_of : Option Addr} {sl_inner_of : Array (Option Value)} {oc_inner_of kV_inner_of dc_inner_of pm_inner_of cd_inner_of ct_inner_of : Value}
  (a_inner_of : PySem.W.nsIn K mainGlobals "inner_of" = some (some (.ref f_inner_of)))
  (l_inner_of : K.lookup f_inner_of = some ⟨oc_inner_of, od_inner_of, .func (PySem.W.fnOf "inner_of" "inner_of" (defArgs s_inner_of) (defBody s_inner_of) (defScope s_inner_of) .none kV_inner_of dc_inner_of pm_inner_of an_inner_of cd_inner_of ct_inner_of), sl_inner_of⟩)
  (e_inner_of : PySem.W.codeIn K cd_inner_of "inner_of" = true)
  (k_inner_of : PySem.W.keepIn K (.ref f_inner_of) = true)
  {f_power : Addr} {od_power an_power : Option Addr} {sl_power : Array (Option Value)} {oc_power kV_power dc_power pm_power cd_power ct_power : Value}
  (a_power : PySem.W.nsIn K mainGlobals "power" = some (some (.ref f_power)))
  (l_power : K.lookup f_power = some ⟨oc_power, od_power, .func (PySem.W.fnOf "power" "power" (defArgs s_power) (defBody s_power) (defScope s_power) .none kV_power dc_power pm_power an_power cd_power ct_power), sl_power⟩)
  (e_power : PySem.W.codeIn K cd_power "power" = true)
  (k_power : PySem.W.keepIn K (.ref f_power) = true)
  {f_l_pen : Addr} {od_l_pen an_l_pen : Option Addr} {sl_l_pen : Array (Option Value)} {oc_l_pen kV_l_pen dc_l_pen pm_l_pen cd_l_pen ct_l_pen : Value}
  (a_l_pen : PySem.W.nsIn K mainGlobals "_law_pen" = some (some (.ref f_l_pen)))
  (l_l_pen : K.lookup f_l_pen = some ⟨oc_l_pen, od_l_pen, .func (PySem.W.fnOf "_law_pen" "_law_pen" (defArgs s_l_pen) (defBody s_l_pen) (defScope s_l_pen) .none kV_l_pen dc_l_pen pm_l_pen an_l_pen cd_l_pen ct_l_pen), sl_l_pen⟩)
  (e_l_pen : PySem.W.codeIn K cd_l_pen "_law_pen" = true)
  (k_l_pen : PySem.W.keepIn K (.ref f_l_pen) = true)
  {f_l_draw : Addr} {od_l_draw an_l_draw : Option Addr} {sl_l_draw : Array (Option Value)} {oc_l_draw kV_l_draw dc_l_draw pm_l_draw cd_l_draw ct_l_draw : Value}
  (a_l_draw : PySem.W.nsIn K mainGlobals "_law_draw" = some (some (.ref f_l_draw)))
  (l_l_draw : K.lookup f_l_draw = some ⟨oc_l_draw, od_l_draw, .func (PySem.W.fnOf "_law_draw" "_law_draw" (defArgs s_l_draw) (defBody s_l_draw) (defScope s_l_draw) .none kV_l_draw dc_l_draw pm_l_draw an_l_draw cd_l_draw ct_l_draw), sl_l_draw⟩)
  (e_l_draw : PySem.W.codeIn K cd_l_draw "_law_draw" = true)
  (k_l_draw : PySem.W.keepIn K (.ref f_l_draw) = true)
  {f_l_labels : Addr} {od_l_labels an_l_labels : Option Addr} {sl_l_labels : Array (Option Value)} {oc_l_labels kV_l_labels dc_l_labels pm_l_labels cd_l_labels ct_l_labels : Value}
  (a_l_labels : PySem.W.nsIn K mainGlobals "_law_labels" = some (some (.ref f_l_labels)))
  (l_l_labels : K.lookup f_l_labels = some ⟨oc_l_labels, od_l_labels, .func (PySem.W.fnOf "_law_labels" "_law_labels" (defArgs s_l_labels) (defBody s_l_labels) (defScope s_l_labels) .none kV_l_labels dc_l_labels pm_l_labels an_l_labels cd_l_labels ct_l_labels), sl_l_labels⟩)
  (e_l_labels : PySem.W.codeIn K cd_l_labels "_law_labels" = true)
  (k_l_labels : PySem.W.keepIn K (.ref f_l_labels) = true)
  {f_l_number : Addr} {od_l_number an_l_number : Option Addr} {sl_l_number : Array (Option Value)} {oc_l_number kV_l_number dc_l_number pm_l_number cd_l_number ct_l_number : Value}
  (a_l_number : PySem.W.nsIn K mainGlobals "_law_number" = some (some (.ref f_l_number)))
  (l_l_number : K.lookup f_l_number = some ⟨oc_l_number, od_l_number, .func (PySem.W.fnOf "_law_number" "_law_number" (defArgs s_l_number) (defBody s_l_number) (defScope s_l_number) .none kV_l_number dc_l_number pm_l_number an_l_number cd_l_number ct_l_number), sl_l_number⟩)
  (e_l_number : PySem.W.codeIn K cd_l_number "_law_number" = true)
  (k_l_number : PySem.W.keepIn K (.ref f_l_number) = true)
  {f_l_deed : Addr} {od_l_deed an_l_deed : Option Addr} {sl_l_deed : Array (Option Value)} {oc_l_deed kV_l_deed dc_l_deed pm_l_deed cd_l_deed ct_l_deed : Value}
  (a_l_deed : PySem.W.nsIn K mainGlobals "_law_deed" = some (some (.ref f_l_deed)))
  (l_l_deed : K.lookup f_l_deed = some ⟨oc_l_deed, od_l_deed, .func (PySem.W.fnOf "_law_deed" "_law_deed" (defArgs s_l_deed) (defBody s_l_deed) (defScope s_l_deed) .none kV_l_deed dc_l_deed pm_l_deed an_l_deed cd_l_deed ct_l_deed), sl_l_deed⟩)
  (e_l_deed : PySem.W.codeIn K cd_l_deed "_law_deed" = true)
  (k_l_deed : PySem.W.keepIn K (.ref f_l_deed) = true)
  {f_l_steady : Addr} {od_l_steady an_l_steady : Option Addr} {sl_l_steady : Array (Option Value)} {oc_l_steady kV_l_steady dc_l_steady pm_l_steady cd_l_steady ct_l_steady : Value}
  (a_l_steady : PySem.W.nsIn K mainGlobals "_law_steady" = some (some (.ref f_l_steady)))
  (l_l_steady : K.lookup f_l_steady = some ⟨oc_l_steady, od_l_steady, .func (PySem.W.fnOf "_law_steady" "_law_steady" (defArgs s_l_steady) (defBody s_l_steady) (defScope s_l_steady) .none kV_l_steady dc_l_steady pm_l_steady an_l_steady cd_l_steady ct_l_steady), sl_l_steady⟩)
  (e_l_steady : PySem.W.codeIn K cd_l_steady "_law_steady" = true)
  (k_l_steady : PySem.W.keepIn K (.ref f_l_steady) = true)
  {f_l_adds : Addr} {od_l_adds an_l_adds : Option Addr} {sl_l_adds : Array (Option Value)} {oc_l_adds kV_l_adds dc_l_adds pm_l_adds cd_l_adds ct_l_adds : Value}
  (a_l_adds : PySem.W.nsIn K mainGlobals "_law_adds" = some (some (.ref f_l_adds)))
  (l_l_adds : K.lookup f_l_adds = some ⟨oc_l_adds, od_l_adds, .func (PySem.W.fnOf "_law_adds" "_law_adds" (defArgs s_l_adds) (defBody s_l_adds) (defScope s_l_adds) .none kV_l_adds dc_l_adds pm_l_adds an_l_adds cd_l_adds ct_l_adds), sl_l_adds⟩)
  (e_l_adds : PySem.W.codeIn K cd_l_adds "_law_adds" = true)
  (k_l_adds : PySem.W.keepIn K (.ref f_l_adds) = true)
  {f_l_small_right : Addr} {od_l_small_right an_l_small_right : Option Addr} {sl_l_small_right : Array (Option Value)} {oc_l_small_right kV_l_small_right dc_l_small_right pm_l_small_right cd_l_small_right ct_l_small_right : Value}
  (a_l_small_right : PySem.W.nsIn K mainGlobals "_law_small_right" = some (some (.ref f_l_small_right)))
  (l_l_small_right : K.lookup f_l_small_right = some ⟨oc_l_small_right, od_l_small_right, .func (PySem.W.fnOf "_law_small_right" "_law_small_right" (defArgs s_l_small_right) (defBody s_l_small_right) (defScope s_l_small_right) .none kV_l_small_right dc_l_small_right pm_l_small_right an_l_small_right cd_l_small_right ct_l_small_right), sl_l_small_right⟩)
  (e_l_small_right : PySem.W.codeIn K cd_l_small_right "_law_small_right" = true)
  (k_l_small_right : PySem.W.keepIn K (.ref f_l_small_right) = true)
  {f_l_great_right : Addr} {od_l_great_right an_l_great_right : Option Addr} {sl_l_great_right : Array (Option Value)} {oc_l_great_right kV_l_great_right dc_l_great_right pm_l_great_right cd_l_great_right ct_l_great_right : Value}
  (a_l_great_right : PySem.W.nsIn K mainGlobals "_law_great_right" = some (some (.ref f_l_great_right)))
  (l_l_great_right : K.lookup f_l_great_right = some ⟨oc_l_great_right, od_l_great_right, .func (PySem.W.fnOf "_law_great_right" "_law_great_right" (defArgs s_l_great_right) (defBody s_l_great_right) (defScope s_l_great_right) .none kV_l_great_right dc_l_great_right pm_l_great_right an_l_great_right cd_l_great_right ct_l_great_right), sl_l_great_right⟩)
  (e_l_great_right : PySem.W.codeIn K cd_l_great_right "_law_great_right" = true)
  (k_l_great_right : PySem.W.keepIn K (.ref f_l_great_right) = true)
  {f_law : Addr} {od_law an_law : Option Addr} {sl_law : Array (Option Value)} {oc_law kV_law dc_law pm_law cd_law ct_law : Value}
  (a_law : PySem.W.nsIn K mainGlobals "law" = some (some (.ref f_law)))
  (l_law : K.lookup f_law = some ⟨oc_law, od_law, .func (PySem.W.fnOf "law" "law" (defArgs s_law) (defBody s_law) (defScope s_law) .none kV_law dc_law pm_law an_law cd_law ct_law), sl_law⟩)
  (e_law : PySem.W.codeIn K cd_law "law" = true)
  (k_law : PySem.W.keepIn K (.ref f_law) = true) :
  ∃ fd : FuncData, (∀ (s : Shared) (u : Value), BindsTo s fd ⟨[u], []⟩ [("_law_script", u)]) ∧ ∀ base : Heap, K.In base → base.Ns mainGlobals mg → FnG P w K mg base 13 fa fd ["_law_script"] (spLaw K) := by
  have e := hfa.symm.trans (PySem.W.mg_of X G a_law)
  cases e
  have T : ∃ T : Facts K mg, T.f_law = fa ∧ T.d_law = PySem.W.fnOf "law" "law" (defArgs s_law) (defBody s_law) (defScope s_law) .none kV_law dc_law pm_law an_law cd_law ct_law := ⟨⟨PySem.W.mg_none_of X G z_abs,
    PySem.W.mg_none_of X G z_all,
    PySem.W.mg_none_of X G z_bool,
    PySem.W.mg_none_of X G z_dict,
    PySem.W.mg_none_of X G z_enumerate,
    PySem.W.mg_none_of X G z_int,
    PySem.W.mg_none_of X G z_isinstance,
    PySem.W.mg_none_of X G z_len,
    PySem.W.mg_none_of X G z_list,
    PySem.W.mg_none_of X G z_max,
    PySem.W.mg_none_of X G z_range,
    PySem.W.mg_none_of X G z_sorted,
    PySem.W.mg_none_of X G z_str,
    PySem.W.mg_none_of X G z_tuple,
    PySem.W.mg_none_of X G z_zip,
    ⟨t_BACK, PySem.W.mg_of X G c_BACK⟩,
    ⟨t_DEL, PySem.W.mg_of X G c_DEL⟩,
    ⟨.ref a_c_EMPTY, _, PySem.W.mg_of X G c_EMPTY, rfl, (rep_wt (vs := [.ref a_c_EMPTY_0, .int 0, .ref a_c_EMPTY_2, .ref a_c_EMPTY_3]) lc_EMPTY (by show 4 ≤ sizeLine; rw [sizeLine_eq]; decide) (.cons rfl (.cons ⟨t_c_EMPTY_1, rfl⟩ (.cons rfl (.cons rfl (.nil))))) (by show 4 ≤ sizeLine; rw [sizeLine_eq]; decide) fun S H => Reps.cons ((rep_wt (vs := []) lc_EMPTY_0 (by show 0 ≤ sizeLine; rw [sizeLine_eq]; decide) (.nil) (by show 0 ≤ sizeLine; rw [sizeLine_eq]; decide) fun S H => Reps.nil) S H) (Reps.cons rfl (Reps.cons ((rep_wt (vs := []) lc_EMPTY_2 (by show 0 ≤ sizeLine; rw [sizeLine_eq]; decide) (.nil) (by show 0 ≤ sizeLine; rw [sizeLine_eq]; decide) fun S H => Reps.nil) S H) (Reps.cons ((rep_wt (vs := []) lc_EMPTY_3 (by show 0 ≤ sizeLine; rw [sizeLine_eq]; decide) (.nil) (by show 0 ≤ sizeLine; rw [sizeLine_eq]; decide) fun S H => Reps.nil) S H) (Reps.nil)))))⟩,
    ⟨t_GREATEST_VALUE, PySem.W.mg_of X G c_GREATEST_VALUE⟩,
    ⟨t_KEEP, PySem.W.mg_of X G c_KEEP⟩,
    ⟨t_LETTERS, PySem.W.mg_of X G c_LETTERS⟩,
    ⟨t_LONGEST_WORD, PySem.W.mg_of X G c_LONGEST_WORD⟩,
    ⟨t_MARK, PySem.W.mg_of X G c_MARK⟩,
    ⟨t_MOST_COMMANDS, PySem.W.mg_of X G c_MOST_COMMANDS⟩,
    ⟨t_MOST_PARTS, PySem.W.mg_of X G c_MOST_PARTS⟩,
    ⟨t_MOST_TIMES, PySem.W.mg_of X G c_MOST_TIMES⟩,
    ⟨t_SET, PySem.W.mg_of X G c_SET⟩,
    C_InvalidScript, PySem.W.mg_of X G xa_InvalidScript,
    C_InvalidPlan, PySem.W.mg_of X G xa_InvalidPlan,
    C_InvalidTimes, PySem.W.mg_of X G xa_InvalidTimes,
    C_TooLong, PySem.W.mg_of X G xa_TooLong,
    ⟨"ValueError", "ValueError.__new__", "ValueError.__init__", [.type "ValueError", .type "Exception", .type "BaseException", .type "object"], C_InvalidScript, fI_InvalidScript, _, _, (clsDef (topS 2) 0), "self", "index", PySem.F.store_ValueError, PySem.F.excBase_ValueError, ⟨(oexChk_ok xb_InvalidScript).1, xi_InvalidScript, xt_InvalidScript, (fun_mk (st := (clsDef (topS 2) 0)) xl_InvalidScript xe_InvalidScript xk_InvalidScript), ⟨rfl, rfl, rfl, by decide +kernel, rfl, by decide +kernel, by decide +kernel⟩, ⟨_, _, _, _, rfl⟩, ⟨by decide, by decide, by decide, by decide⟩, ⟨by decide +kernel, by decide +kernel⟩, (oexChk_ok xb_InvalidScript).2, (fun_mk (st := (clsDef (topS 2) 0)) xl_InvalidScript xe_InvalidScript xk_InvalidScript).binds (ps := ["self", "index"]) fun _ _ _ _ _ _ us hl => match us, hl with | [_, _], _ => rfl⟩, PySem.W.mg_of X G xa_InvalidScript⟩,
    errK0_of PySem.F.excBase_ValueError xb_InvalidPlan (PySem.W.mg_of X G xa_InvalidPlan),
    ⟨"ValueError", "ValueError.__new__", "ValueError.__init__", [.type "ValueError", .type "Exception", .type "BaseException", .type "object"], C_InvalidTimes, fI_InvalidTimes, _, _, (clsDef (topS 4) 0), "self", "number", PySem.F.store_ValueError, PySem.F.excBase_ValueError, ⟨(oexChk_ok xb_InvalidTimes).1, xi_InvalidTimes, xt_InvalidTimes, (fun_mk (st := (clsDef (topS 4) 0)) xl_InvalidTimes xe_InvalidTimes xk_InvalidTimes), ⟨rfl, rfl, rfl, by decide +kernel, rfl, by decide +kernel, by decide +kernel⟩, ⟨_, _, _, _, rfl⟩, ⟨by decide, by decide, by decide, by decide⟩, ⟨by decide +kernel, by decide +kernel⟩, (oexChk_ok xb_InvalidTimes).2, (fun_mk (st := (clsDef (topS 4) 0)) xl_InvalidTimes xe_InvalidTimes xk_InvalidTimes).binds (ps := ["self", "number"]) fun _ _ _ _ _ _ us hl => match us, hl with | [_, _], _ => rfl⟩, PySem.W.mg_of X G xa_InvalidTimes⟩,
    ⟨"OverflowError", "OverflowError.__new__", "OverflowError.__init__", [.type "OverflowError", .type "ArithmeticError", .type "Exception", .type "BaseException", .type "object"], C_TooLong, fI_TooLong, _, _, (clsDef (topS 6) 0), "self", "most", PySem.F.store_OverflowError, PySem.F.excBase_OverflowError, ⟨(oexChk_ok xb_TooLong).1, xi_TooLong, xt_TooLong, (fun_mk (st := (clsDef (topS 6) 0)) xl_TooLong xe_TooLong xk_TooLong), ⟨rfl, rfl, rfl, by decide +kernel, rfl, by decide +kernel, by decide +kernel⟩, ⟨_, _, _, _, rfl⟩, ⟨by decide, by decide, by decide, by decide⟩, ⟨by decide +kernel, by decide +kernel⟩, (oexChk_ok xb_TooLong).2, (fun_mk (st := (clsDef (topS 6) 0)) xl_TooLong xe_TooLong xk_TooLong).binds (ps := ["self", "most"]) fun _ _ _ _ _ _ us hl => match us, hl with | [_, _], _ => rfl⟩, PySem.W.mg_of X G xa_TooLong⟩,
    errI_of2 (as := [(Str.ofString "InvalidScript", C_InvalidScript), (Str.ofString "InvalidPlan", C_InvalidPlan), (Str.ofString "InvalidTimes", C_InvalidTimes), (Str.ofString "TooLong", C_TooLong)]) (ns := [Str.ofString "InvalidScript", Str.ofString "InvalidPlan", Str.ofString "InvalidTimes", Str.ofString "TooLong"]) (ap_cons (PySem.W.mg_of X G xa_InvalidScript) (ap_cons (PySem.W.mg_of X G xa_InvalidPlan) (ap_cons (PySem.W.mg_of X G xa_InvalidTimes) (ap_cons (PySem.W.mg_of X G xa_TooLong) (ap_nil))))) rfl (by decide +kernel) xch,
    C_Plan, PySem.W.mg_of X G xa_Plan, insC_of xa_Plan xb_Plan, beq_iff_eq.mp xb_me_Plan, xb_sf_Plan, xm_ne_Plan,
    f_is_integer, _, (fun_mk (st := s_is_integer) l_is_integer e_is_integer k_is_integer), PySem.W.mg_of X G a_is_integer, ((fun_mk (st := s_is_integer) l_is_integer e_is_integer k_is_integer)).binds (ps := ["value"]) fun _ _ _ _ _ _ us hl => match us, hl with | [_], _ => rfl,
    f_is_between, _, (fun_mk (st := s_is_between) l_is_between e_is_between k_is_between), PySem.W.mg_of X G a_is_between, ((fun_mk (st := s_is_between) l_is_between e_is_between k_is_between)).binds (ps := ["value", "least", "most"]) fun _ _ _ _ _ _ us hl => match us, hl with | [_, _, _], _ => rfl,
    f_is_word, _, (fun_mk (st := s_is_word) l_is_word e_is_word k_is_word), PySem.W.mg_of X G a_is_word, ((fun_mk (st := s_is_word) l_is_word e_is_word k_is_word)).binds (ps := ["value"]) fun _ _ _ _ _ _ us hl => match us, hl with | [_], _ => rfl,
    f_is_value, _, (fun_mk (st := s_is_value) l_is_value e_is_value k_is_value), PySem.W.mg_of X G a_is_value, ((fun_mk (st := s_is_value) l_is_value e_is_value k_is_value)).binds (ps := ["value"]) fun _ _ _ _ _ _ us hl => match us, hl with | [_], _ => rfl,
    f_are_pairs, _, (fun_mk (st := s_are_pairs) l_are_pairs e_are_pairs k_are_pairs), PySem.W.mg_of X G a_are_pairs, ((fun_mk (st := s_are_pairs) l_are_pairs e_are_pairs k_are_pairs)).binds (ps := ["value"]) fun _ _ _ _ _ _ us hl => match us, hl with | [_], _ => rfl,
    f_is_map, _, (fun_mk (st := s_is_map) l_is_map e_is_map k_is_map), PySem.W.mg_of X G a_is_map, ((fun_mk (st := s_is_map) l_is_map e_is_map k_is_map)).binds (ps := ["value"]) fun _ _ _ _ _ _ us hl => match us, hl with | [_], _ => rfl,
    f_pairs_of, _, (fun_mk (st := s_pairs_of) l_pairs_of e_pairs_of k_pairs_of), PySem.W.mg_of X G a_pairs_of, ((fun_mk (st := s_pairs_of) l_pairs_of e_pairs_of k_pairs_of)).binds (ps := ["entries"]) fun _ _ _ _ _ _ us hl => match us, hl with | [_], _ => rfl,
    f_overlaid, _, (fun_mk (st := s_overlaid) l_overlaid e_overlaid k_overlaid), PySem.W.mg_of X G a_overlaid, ((fun_mk (st := s_overlaid) l_overlaid e_overlaid k_overlaid)).binds (ps := ["lower", "upper"]) fun _ _ _ _ _ _ us hl => match us, hl with | [_, _], _ => rfl,
    f_is_command, _, (fun_mk (st := s_is_command) l_is_command e_is_command k_is_command), PySem.W.mg_of X G a_is_command, ((fun_mk (st := s_is_command) l_is_command e_is_command k_is_command)).binds (ps := ["value"]) fun _ _ _ _ _ _ us hl => match us, hl with | [_], _ => rfl,
    f_is_write, _, (fun_mk (st := s_is_write) l_is_write e_is_write k_is_write), PySem.W.mg_of X G a_is_write, ((fun_mk (st := s_is_write) l_is_write e_is_write k_is_write)).binds (ps := ["command"]) fun _ _ _ _ _ _ us hl => match us, hl with | [_], _ => rfl,
    f_entry_of, _, (fun_mk (st := s_entry_of) l_entry_of e_entry_of k_entry_of), PySem.W.mg_of X G a_entry_of, ((fun_mk (st := s_entry_of) l_entry_of e_entry_of k_entry_of)).binds (ps := ["command"]) fun _ _ _ _ _ _ us hl => match us, hl with | [_], _ => rfl,
    f_first_invalid, _, (fun_mk (st := s_first_invalid) l_first_invalid e_first_invalid k_first_invalid), PySem.W.mg_of X G a_first_invalid, ((fun_mk (st := s_first_invalid) l_first_invalid e_first_invalid k_first_invalid)).binds (ps := ["value"]) fun _ _ _ _ _ _ us hl => match us, hl with | [_], _ => rfl,
    f_need_script, _, (fun_mk (st := s_need_script) l_need_script e_need_script k_need_script), PySem.W.mg_of X G a_need_script, ((fun_mk (st := s_need_script) l_need_script e_need_script k_need_script)).binds (ps := ["value"]) fun _ _ _ _ _ _ us hl => match us, hl with | [_], _ => rfl,
    f_places_in, _, (fun_mk (st := s_places_in) l_places_in e_places_in k_places_in), PySem.W.mg_of X G a_places_in, ((fun_mk (st := s_places_in) l_places_in e_places_in k_places_in)).binds (ps := ["pattern", "names"]) fun _ _ _ _ _ _ us hl => match us, hl with | [_, _], _ => rfl,
    f_nearest_place, _, (fun_mk (st := s_nearest_place) l_nearest_place e_nearest_place k_nearest_place), PySem.W.mg_of X G a_nearest_place, ((fun_mk (st := s_nearest_place) l_nearest_place e_nearest_place k_nearest_place)).binds (ps := ["pile", "name"]) fun _ _ _ _ _ _ us hl => match us, hl with | [_, _], _ => rfl,
    f_extended, _, (fun_mk (st := s_extended) l_extended e_extended k_extended), PySem.W.mg_of X G a_extended, ((fun_mk (st := s_extended) l_extended e_extended k_extended)).binds (ps := ["parts", "command"]) fun _ _ _ _ _ _ us hl => match us, hl with | [_, _], _ => rfl,
    f_own_places, _, (fun_mk (st := s_own_places) l_own_places e_own_places k_own_places), PySem.W.mg_of X G a_own_places, ((fun_mk (st := s_own_places) l_own_places e_own_places k_own_places)).binds (ps := ["pattern", "frames"]) fun _ _ _ _ _ _ us hl => match us, hl with | [_, _], _ => rfl,
    f_inner_map, _, (fun_mk (st := s_inner_map) l_inner_map e_inner_map k_inner_map), PySem.W.mg_of X G a_inner_map, ((fun_mk (st := s_inner_map) l_inner_map e_inner_map k_inner_map)).binds (ps := ["parts", "places", "source"]) fun _ _ _ _ _ _ us hl => match us, hl with | [_, _, _], _ => rfl,
    f_frames_over, _, (fun_mk (st := s_frames_over) l_frames_over e_frames_over k_frames_over), PySem.W.mg_of X G a_frames_over, ((fun_mk (st := s_frames_over) l_frames_over e_frames_over k_frames_over)).binds (ps := ["inner", "frames"]) fun _ _ _ _ _ _ us hl => match us, hl with | [_, _], _ => rfl,
    f_composed, _, (fun_mk (st := s_composed) l_composed e_composed k_composed), PySem.W.mg_of X G a_composed, ((fun_mk (st := s_composed) l_composed e_composed k_composed)).binds (ps := ["first", "second"]) fun _ _ _ _ _ _ us hl => match us, hl with | [_, _], _ => rfl,
    f_is_frame, _, (fun_mk (st := s_is_frame) l_is_frame e_is_frame k_is_frame), PySem.W.mg_of X G a_is_frame, ((fun_mk (st := s_is_frame) l_is_frame e_is_frame k_is_frame)).binds (ps := ["value"]) fun _ _ _ _ _ _ us hl => match us, hl with | [_], _ => rfl,
    f_are_nested, _, (fun_mk (st := s_are_nested) l_are_nested e_are_nested k_are_nested), PySem.W.mg_of X G a_are_nested, ((fun_mk (st := s_are_nested) l_are_nested e_are_nested k_are_nested)).binds (ps := ["maps"]) fun _ _ _ _ _ _ us hl => match us, hl with | [_], _ => rfl,
    f_are_parts, _, (fun_mk (st := s_are_parts) l_are_parts e_are_parts k_are_parts), PySem.W.mg_of X G a_are_parts, ((fun_mk (st := s_are_parts) l_are_parts e_are_parts k_are_parts)).binds (ps := ["pattern", "source", "frames", "writes"]) fun _ _ _ _ _ _ us hl => match us, hl with | [_, _, _, _], _ => rfl,
    f_Plan_init, _, FunI.mk' (st := s_Plan_init) l_Plan_init e_Plan_init, binds_dfl (ps := ["self", "pattern", "source", "frames", "writes"]) dl_Plan_init rfl (fun us hl => match us, hl with | [_, _, _, _, _], _ => ⟨_, rfl, rfl⟩), mk_of xm_Plan_init xb_Plan_init,
    ⟨_, [.ref dta_0_Plan_init, .int 0, .ref dta_2_Plan_init, .ref dta_3_Plan_init], binds_dfl0 (ps := ["self", "pattern", "source", "frames", "writes"]) dl_Plan_init rfl (fun us hl => match us, hl with | [_], _ => ⟨_, rfl, rfl⟩), (.cons tv_dt0_Plan_init (.cons ⟨_, tv_dt1_Plan_init⟩ (.cons tv_dt2_Plan_init (.cons tv_dt3_Plan_init (.nil))))), fun S H => Reps.cons (rep_empty dtl_0_Plan_init S H) (Reps.cons rfl (Reps.cons (rep_empty dtl_2_Plan_init S H) (Reps.cons (rep_empty dtl_3_Plan_init S H) (Reps.nil))))⟩,
    f_Plan_of, _, (fun_mk (st := s_Plan_of) l_Plan_of e_Plan_of k_Plan_of), ((fun_mk (st := s_Plan_of) l_Plan_of e_Plan_of k_Plan_of)).binds (ps := ["cls", "commands"]) fun _ _ _ _ _ _ us hl => match us, hl with | [_, _], _ => rfl,
    p_Plan_of, cread_of xb_Plan_of, cmet_of (rec_mk rl_Plan_of tv_Plan_of) xb_Plan_of,
    f_Plan_pattern, _, (fun_mk (st := s_Plan_pattern) l_Plan_pattern e_Plan_pattern k_Plan_pattern), ((fun_mk (st := s_Plan_pattern) l_Plan_pattern e_Plan_pattern k_Plan_pattern)).binds (ps := ["self"]) fun _ _ _ _ _ _ us hl => match us, hl with | [_], _ => rfl,
    p_Plan_pattern, prop_of xm_Plan_pattern (rec_mk rl_Plan_pattern tv_Plan_pattern) xb_Plan_pattern,
    f_Plan_source, _, (fun_mk (st := s_Plan_source) l_Plan_source e_Plan_source k_Plan_source), ((fun_mk (st := s_Plan_source) l_Plan_source e_Plan_source k_Plan_source)).binds (ps := ["self"]) fun _ _ _ _ _ _ us hl => match us, hl with | [_], _ => rfl,
    p_Plan_source, prop_of xm_Plan_source (rec_mk rl_Plan_source tv_Plan_source) xb_Plan_source,
    f_Plan_frames, _, (fun_mk (st := s_Plan_frames) l_Plan_frames e_Plan_frames k_Plan_frames), ((fun_mk (st := s_Plan_frames) l_Plan_frames e_Plan_frames k_Plan_frames)).binds (ps := ["self"]) fun _ _ _ _ _ _ us hl => match us, hl with | [_], _ => rfl,
    p_Plan_frames, prop_of xm_Plan_frames (rec_mk rl_Plan_frames tv_Plan_frames) xb_Plan_frames,
    f_Plan_writes, _, (fun_mk (st := s_Plan_writes) l_Plan_writes e_Plan_writes k_Plan_writes), ((fun_mk (st := s_Plan_writes) l_Plan_writes e_Plan_writes k_Plan_writes)).binds (ps := ["self"]) fun _ _ _ _ _ _ us hl => match us, hl with | [_], _ => rfl,
    p_Plan_writes, prop_of xm_Plan_writes (rec_mk rl_Plan_writes tv_Plan_writes) xb_Plan_writes,
    f_Plan_mul, _, (fun_mk (st := s_Plan_mul) l_Plan_mul e_Plan_mul k_Plan_mul), ((fun_mk (st := s_Plan_mul) l_Plan_mul e_Plan_mul k_Plan_mul)).binds (ps := ["self", "other"]) fun _ _ _ _ _ _ us hl => match us, hl with | [_, _], _ => rfl,
    xm_Plan_mul, (Bool.and_eq_true_iff.mp (show (PySem.W.isFn K (.ref f_Plan_mul) && PySem.W.fnIn K f_Plan_mul) = true from xb_Plan_mul)).1,
    f_Plan_eq, _, (fun_mk (st := s_Plan_eq) l_Plan_eq e_Plan_eq k_Plan_eq), ((fun_mk (st := s_Plan_eq) l_Plan_eq e_Plan_eq k_Plan_eq)).binds (ps := ["self", "other"]) fun _ _ _ _ _ _ us hl => match us, hl with | [_, _], _ => rfl,
    xm_Plan_eq, (Bool.and_eq_true_iff.mp (show (PySem.W.isFn K (.ref f_Plan_eq) && PySem.W.fnIn K f_Plan_eq) = true from xb_Plan_eq)).1,
    f_own_matches, _, (fun_mk (st := s_own_matches) l_own_matches e_own_matches k_own_matches), PySem.W.mg_of X G a_own_matches, ((fun_mk (st := s_own_matches) l_own_matches e_own_matches k_own_matches)).binds (ps := ["plan"]) fun _ _ _ _ _ _ us hl => match us, hl with | [_], _ => rfl,
    f_need_times, _, (fun_mk (st := s_need_times) l_need_times e_need_times k_need_times), PySem.W.mg_of X G a_need_times, ((fun_mk (st := s_need_times) l_need_times e_need_times k_need_times)).binds (ps := ["times"]) fun _ _ _ _ _ _ us hl => match us, hl with | [_], _ => rfl,
    f_frames_kept, _, (fun_mk (st := s_frames_kept) l_frames_kept e_frames_kept k_frames_kept), PySem.W.mg_of X G a_frames_kept, ((fun_mk (st := s_frames_kept) l_frames_kept e_frames_kept k_frames_kept)).binds (ps := ["plan", "places"]) fun _ _ _ _ _ _ us hl => match us, hl with | [_, _], _ => rfl,
    f_inner_of, _, (fun_mk (st := s_inner_of) l_inner_of e_inner_of k_inner_of), PySem.W.mg_of X G a_inner_of, ((fun_mk (st := s_inner_of) l_inner_of e_inner_of k_inner_of)).binds (ps := ["plan", "places"]) fun _ _ _ _ _ _ us hl => match us, hl with | [_, _], _ => rfl,
    f_power, _, (fun_mk (st := s_power) l_power e_power k_power), PySem.W.mg_of X G a_power, ((fun_mk (st := s_power) l_power e_power k_power)).binds (ps := ["plan", "times"]) fun _ _ _ _ _ _ us hl => match us, hl with | [_, _], _ => rfl,
    f_l_pen, _, (fun_mk (st := s_l_pen) l_l_pen e_l_pen k_l_pen), PySem.W.mg_of X G a_l_pen, ((fun_mk (st := s_l_pen) l_l_pen e_l_pen k_l_pen)).binds (ps := ["_law_script"]) fun _ _ _ _ _ _ us hl => match us, hl with | [_], _ => rfl,
    f_l_draw, _, (fun_mk (st := s_l_draw) l_l_draw e_l_draw k_l_draw), PySem.W.mg_of X G a_l_draw, ((fun_mk (st := s_l_draw) l_l_draw e_l_draw k_l_draw)).binds (ps := ["_law_pen_here", "_law_bound"]) fun _ _ _ _ _ _ us hl => match us, hl with | [_, _], _ => rfl,
    f_l_labels, _, (fun_mk (st := s_l_labels) l_l_labels e_l_labels k_l_labels), PySem.W.mg_of X G a_l_labels, ((fun_mk (st := s_l_labels) l_l_labels e_l_labels k_l_labels)).binds (ps := ["_law_pen_here"]) fun _ _ _ _ _ _ us hl => match us, hl with | [_], _ => rfl,
    f_l_number, _, (fun_mk (st := s_l_number) l_l_number e_l_number k_l_number), PySem.W.mg_of X G a_l_number, ((fun_mk (st := s_l_number) l_l_number e_l_number k_l_number)).binds (ps := ["_law_pen_here"]) fun _ _ _ _ _ _ us hl => match us, hl with | [_], _ => rfl,
    f_l_deed, _, (fun_mk (st := s_l_deed) l_l_deed e_l_deed k_l_deed), PySem.W.mg_of X G a_l_deed, ((fun_mk (st := s_l_deed) l_l_deed e_l_deed k_l_deed)).binds (ps := ["_law_pen_here", "_law_labels_here", "_law_fields"]) fun _ _ _ _ _ _ us hl => match us, hl with | [_, _, _], _ => rfl,
    f_l_steady, _, (fun_mk (st := s_l_steady) l_l_steady e_l_steady k_l_steady), PySem.W.mg_of X G a_l_steady, ((fun_mk (st := s_l_steady) l_l_steady e_l_steady k_l_steady)).binds (ps := ["_law_pen_here", "_law_labels_here", "_law_fields"]) fun _ _ _ _ _ _ us hl => match us, hl with | [_, _, _], _ => rfl,
    f_l_adds, _, (fun_mk (st := s_l_adds) l_l_adds e_l_adds k_l_adds), PySem.W.mg_of X G a_l_adds, ((fun_mk (st := s_l_adds) l_l_adds e_l_adds k_l_adds)).binds (ps := ["_law_sketch", "_law_one", "_law_two"]) fun _ _ _ _ _ _ us hl => match us, hl with | [_, _, _], _ => rfl,
    f_l_small_right, _, (fun_mk (st := s_l_small_right) l_l_small_right e_l_small_right k_l_small_right), PySem.W.mg_of X G a_l_small_right, ((fun_mk (st := s_l_small_right) l_l_small_right e_l_small_right k_l_small_right)).binds (ps := ["_law_pen_here", "_law_deeds"]) fun _ _ _ _ _ _ us hl => match us, hl with | [_, _], _ => rfl,
    f_l_great_right, _, (fun_mk (st := s_l_great_right) l_l_great_right e_l_great_right k_l_great_right), PySem.W.mg_of X G a_l_great_right, ((fun_mk (st := s_l_great_right) l_l_great_right e_l_great_right k_l_great_right)).binds (ps := ["_law_pen_here", "_law_deeds"]) fun _ _ _ _ _ _ us hl => match us, hl with | [_, _], _ => rfl,
    fa, _, (fun_mk (st := s_law) l_law e_law k_law), PySem.W.mg_of X G a_law, ((fun_mk (st := s_law) l_law e_law k_law)).binds (ps := ["_law_script"]) fun _ _ _ _ _ _ us hl => match us, hl with | [_], _ => rfl⟩, rfl, rfl⟩
  obtain ⟨T, e1, e2⟩ := T
  refine ⟨PySem.W.fnOf "law" "law" (defArgs s_law) (defBody s_law) (defScope s_law) .none kV_law dc_law pm_law an_law cd_law ct_law, fun s u => .of_eq rfl, fun base _ _ => ?_⟩
  have q := ok_law (P := P) (w := w) (base := base) T holds
  rw [e1, e2] at q
  exact q
end
end Q24
open PySem PySem.W PyProof.Rows
set_option maxHeartbeats 0 in
theorem PySem.Challenge.cw_rewindplan_k24_whole_powers_add_up_holds : PySem.Challenge.rw_rewindplan_k24_whole_powers_add_up.Holds := by
  w_on; o_law; k_head; (case hw => w_witness2)
  k_fill
  refine PL.law_end (l := PySem.Challenge.rw_rewindplan_k24_whole_powers_add_up) (k := 13) (x := "_law_script") rfl rfl ⟨rfl, by decide, by decide⟩ (fun w h Y => PySem.W.kIn_of Y) ?F
  case F =>
    intro w mg fa h KX G hmg
    refine' Q24.fin KX G Q24.holds hmg ?z_abs ?z_all ?z_bool ?z_dict ?z_enumerate ?z_int ?z_isinstance ?z_len ?z_list ?z_max ?z_range ?z_sorted ?z_str ?z_tuple ?z_zip ?c_BACK ?c_DEL ?c_EMPTY ?lc_EMPTY ?lc_EMPTY_0 ?lc_EMPTY_2 ?lc_EMPTY_3 ?c_GREATEST_VALUE ?c_KEEP ?c_LETTERS ?c_LONGEST_WORD ?c_MARK ?c_MOST_COMMANDS ?c_MOST_PARTS ?c_MOST_TIMES ?c_SET ?xa_InvalidScript ?xa_InvalidPlan ?xa_InvalidTimes ?xa_TooLong ?xi_InvalidScript ?xl_InvalidScript ?xe_InvalidScript ?xk_InvalidScript ?xt_InvalidScript ?xb_InvalidScript ?xb_InvalidPlan ?xi_InvalidTimes ?xl_InvalidTimes ?xe_InvalidTimes ?xk_InvalidTimes ?xt_InvalidTimes ?xb_InvalidTimes ?xi_TooLong ?xl_TooLong ?xe_TooLong ?xk_TooLong ?xt_TooLong ?xb_TooLong ?xch ?xa_Plan ?xb_Plan ?xb_me_Plan ?xb_sf_Plan ?xm_ne_Plan ?xm_Plan_init ?l_Plan_init ?e_Plan_init ?dl_Plan_init ?tv_dt0_Plan_init ?dtl_0_Plan_init ?tv_dt1_Plan_init ?tv_dt2_Plan_init ?dtl_2_Plan_init ?tv_dt3_Plan_init ?dtl_3_Plan_init ?xb_Plan_init ?xm_Plan_of ?rl_Plan_of ?tv_Plan_of ?l_Plan_of ?e_Plan_of ?k_Plan_of ?xb_Plan_of ?xm_Plan_pattern ?rl_Plan_pattern ?tv_Plan_pattern ?l_Plan_pattern ?e_Plan_pattern ?k_Plan_pattern ?xb_Plan_pattern ?xm_Plan_source ?rl_Plan_source ?tv_Plan_source ?l_Plan_source ?e_Plan_source ?k_Plan_source ?xb_Plan_source ?xm_Plan_frames ?rl_Plan_frames ?tv_Plan_frames ?l_Plan_frames ?e_Plan_frames ?k_Plan_frames ?xb_Plan_frames ?xm_Plan_writes ?rl_Plan_writes ?tv_Plan_writes ?l_Plan_writes ?e_Plan_writes ?k_Plan_writes ?xb_Plan_writes ?xm_Plan_mul ?l_Plan_mul ?e_Plan_mul ?k_Plan_mul ?xb_Plan_mul ?xm_Plan_eq ?l_Plan_eq ?e_Plan_eq ?k_Plan_eq ?xb_Plan_eq ?a_is_integer ?l_is_integer ?e_is_integer ?k_is_integer ?a_is_between ?l_is_between ?e_is_between ?k_is_between ?a_is_word ?l_is_word ?e_is_word ?k_is_word ?a_is_value ?l_is_value ?e_is_value ?k_is_value ?a_are_pairs ?l_are_pairs ?e_are_pairs ?k_are_pairs ?a_is_map ?l_is_map ?e_is_map ?k_is_map ?a_pairs_of ?l_pairs_of ?e_pairs_of ?k_pairs_of ?a_overlaid ?l_overlaid ?e_overlaid ?k_overlaid ?a_is_command ?l_is_command ?e_is_command ?k_is_command ?a_is_write ?l_is_write ?e_is_write ?k_is_write ?a_entry_of ?l_entry_of ?e_entry_of ?k_entry_of ?a_first_invalid ?l_first_invalid ?e_first_invalid ?k_first_invalid ?a_need_script ?l_need_script ?e_need_script ?k_need_script ?a_places_in ?l_places_in ?e_places_in ?k_places_in ?a_nearest_place ?l_nearest_place ?e_nearest_place ?k_nearest_place ?a_extended ?l_extended ?e_extended ?k_extended ?a_own_places ?l_own_places ?e_own_places ?k_own_places ?a_inner_map ?l_inner_map ?e_inner_map ?k_inner_map ?a_frames_over ?l_frames_over ?e_frames_over ?k_frames_over ?a_composed ?l_composed ?e_composed ?k_composed ?a_is_frame ?l_is_frame ?e_is_frame ?k_is_frame ?a_are_nested ?l_are_nested ?e_are_nested ?k_are_nested ?a_are_parts ?l_are_parts ?e_are_parts ?k_are_parts ?a_own_matches ?l_own_matches ?e_own_matches ?k_own_matches ?a_need_times ?l_need_times ?e_need_times ?k_need_times ?a_frames_kept ?l_frames_kept ?e_frames_kept ?k_frames_kept ?a_inner_of ?l_inner_of ?e_inner_of ?k_inner_of ?a_power ?l_power ?e_power ?k_power ?a_l_pen ?l_l_pen ?e_l_pen ?k_l_pen ?a_l_draw ?l_l_draw ?e_l_draw ?k_l_draw ?a_l_labels ?l_l_labels ?e_l_labels ?k_l_labels ?a_l_number ?l_l_number ?e_l_number ?k_l_number ?a_l_deed ?l_l_deed ?e_l_deed ?k_l_deed ?a_l_steady ?l_l_steady ?e_l_steady ?k_l_steady ?a_l_adds ?l_l_adds ?e_l_adds ?k_l_adds ?a_l_small_right ?l_l_small_right ?e_l_small_right ?k_l_small_right ?a_l_great_right ?l_l_great_right ?e_l_great_right ?k_l_great_right ?a_law ?l_law ?e_law ?k_law
    (case z_abs => k_is)
    (case z_all => k_is)
    (case z_bool => k_is)
    (case z_dict => k_is)
    (case z_enumerate => k_is)
    (case z_int => k_is)
    (case z_isinstance => k_is)
    (case z_len => k_is)
    (case z_list => k_is)
    (case z_max => k_is)
    (case z_range => k_is)
    (case z_sorted => k_is)
    (case z_str => k_is)
    (case z_tuple => k_is)
    (case z_zip => k_is)
    (case c_BACK => k_is)
    (case c_DEL => k_is)
    (case c_EMPTY => k_is)
    (case lc_EMPTY => k_is)
    (case lc_EMPTY_0 => k_is)
    (case lc_EMPTY_2 => k_is)
    (case lc_EMPTY_3 => k_is)
    (case c_GREATEST_VALUE => k_is)
    (case c_KEEP => k_is)
    (case c_LETTERS => k_is)
    (case c_LONGEST_WORD => k_is)
    (case c_MARK => k_is)
    (case c_MOST_COMMANDS => k_is)
    (case c_MOST_PARTS => k_is)
    (case c_MOST_TIMES => k_is)
    (case c_SET => k_is)
    (case xa_InvalidScript => k_is)
    (case xa_InvalidPlan => k_is)
    (case xa_InvalidTimes => k_is)
    (case xa_TooLong => k_is)
    (case xi_InvalidScript => k_is)
    (case xl_InvalidScript => k_is)
    (case xe_InvalidScript => k_is)
    (case xk_InvalidScript => k_is)
    (case xt_InvalidScript => k_is)
    (case xb_InvalidScript => kernel_rfl)
    (case xb_InvalidPlan => kernel_rfl)
    (case xi_InvalidTimes => k_is)
    (case xl_InvalidTimes => k_is)
    (case xe_InvalidTimes => k_is)
    (case xk_InvalidTimes => k_is)
    (case xt_InvalidTimes => k_is)
    (case xb_InvalidTimes => kernel_rfl)
    (case xi_TooLong => k_is)
    (case xl_TooLong => k_is)
    (case xe_TooLong => k_is)
    (case xk_TooLong => k_is)
    (case xt_TooLong => k_is)
    (case xb_TooLong => kernel_rfl)
    (case xch => kernel_rfl)
    (case xa_Plan => k_is)
    (case xb_Plan => kernel_rfl)
    (case xb_me_Plan => kernel_rfl)
    (case xb_sf_Plan => kernel_rfl)
    (case xm_ne_Plan => k_is)
    (case xm_Plan_init => k_is)
    (case l_Plan_init => k_is)
    (case e_Plan_init => k_is)
    (case dl_Plan_init => k_is)
    (case tv_dt0_Plan_init => exact rfl)
    (case dtl_0_Plan_init => k_is)
    (case tv_dt1_Plan_init => exact rfl)
    (case tv_dt2_Plan_init => exact rfl)
    (case dtl_2_Plan_init => k_is)
    (case tv_dt3_Plan_init => exact rfl)
    (case dtl_3_Plan_init => k_is)
    (case xb_Plan_init => kernel_rfl)
    (case xm_Plan_of => k_is)
    (case rl_Plan_of => k_is)
    (case tv_Plan_of => exact rfl)
    (case l_Plan_of => k_is)
    (case e_Plan_of => k_is)
    (case k_Plan_of => k_is)
    (case xb_Plan_of => kernel_rfl)
    (case xm_Plan_pattern => k_is)
    (case rl_Plan_pattern => k_is)
    (case tv_Plan_pattern => exact rfl)
    (case l_Plan_pattern => k_is)
    (case e_Plan_pattern => k_is)
    (case k_Plan_pattern => k_is)
    (case xb_Plan_pattern => kernel_rfl)
    (case xm_Plan_source => k_is)
    (case rl_Plan_source => k_is)
    (case tv_Plan_source => exact rfl)
    (case l_Plan_source => k_is)
    (case e_Plan_source => k_is)
    (case k_Plan_source => k_is)
    (case xb_Plan_source => kernel_rfl)
    (case xm_Plan_frames => k_is)
    (case rl_Plan_frames => k_is)
    (case tv_Plan_frames => exact rfl)
    (case l_Plan_frames => k_is)
    (case e_Plan_frames => k_is)
    (case k_Plan_frames => k_is)
    (case xb_Plan_frames => kernel_rfl)
    (case xm_Plan_writes => k_is)
    (case rl_Plan_writes => k_is)
    (case tv_Plan_writes => exact rfl)
    (case l_Plan_writes => k_is)
    (case e_Plan_writes => k_is)
    (case k_Plan_writes => k_is)
    (case xb_Plan_writes => kernel_rfl)
    (case xm_Plan_mul => k_is)
    (case l_Plan_mul => k_is)
    (case e_Plan_mul => k_is)
    (case k_Plan_mul => k_is)
    (case xb_Plan_mul => kernel_rfl)
    (case xm_Plan_eq => k_is)
    (case l_Plan_eq => k_is)
    (case e_Plan_eq => k_is)
    (case k_Plan_eq => k_is)
    (case xb_Plan_eq => kernel_rfl)
    (case a_is_integer => k_is)
    (case l_is_integer => k_is)
    (case e_is_integer => k_is)
    (case k_is_integer => k_is)
    (case a_is_between => k_is)
    (case l_is_between => k_is)
    (case e_is_between => k_is)
    (case k_is_between => k_is)
    (case a_is_word => k_is)
    (case l_is_word => k_is)
    (case e_is_word => k_is)
    (case k_is_word => k_is)
    (case a_is_value => k_is)
    (case l_is_value => k_is)
    (case e_is_value => k_is)
    (case k_is_value => k_is)
    (case a_are_pairs => k_is)
    (case l_are_pairs => k_is)
    (case e_are_pairs => k_is)
    (case k_are_pairs => k_is)
    (case a_is_map => k_is)
    (case l_is_map => k_is)
    (case e_is_map => k_is)
    (case k_is_map => k_is)
    (case a_pairs_of => k_is)
    (case l_pairs_of => k_is)
    (case e_pairs_of => k_is)
    (case k_pairs_of => k_is)
    (case a_overlaid => k_is)
    (case l_overlaid => k_is)
    (case e_overlaid => k_is)
    (case k_overlaid => k_is)
    (case a_is_command => k_is)
    (case l_is_command => k_is)
    (case e_is_command => k_is)
    (case k_is_command => k_is)
    (case a_is_write => k_is)
    (case l_is_write => k_is)
    (case e_is_write => k_is)
    (case k_is_write => k_is)
    (case a_entry_of => k_is)
    (case l_entry_of => k_is)
    (case e_entry_of => k_is)
    (case k_entry_of => k_is)
    (case a_first_invalid => k_is)
    (case l_first_invalid => k_is)
    (case e_first_invalid => k_is)
    (case k_first_invalid => k_is)
    (case a_need_script => k_is)
    (case l_need_script => k_is)
    (case e_need_script => k_is)
    (case k_need_script => k_is)
    (case a_places_in => k_is)
    (case l_places_in => k_is)
    (case e_places_in => k_is)
    (case k_places_in => k_is)
    (case a_nearest_place => k_is)
    (case l_nearest_place => k_is)
    (case e_nearest_place => k_is)
    (case k_nearest_place => k_is)
    (case a_extended => k_is)
    (case l_extended => k_is)
    (case e_extended => k_is)
    (case k_extended => k_is)
    (case a_own_places => k_is)
    (case l_own_places => k_is)
    (case e_own_places => k_is)
    (case k_own_places => k_is)
    (case a_inner_map => k_is)
    (case l_inner_map => k_is)
    (case e_inner_map => k_is)
    (case k_inner_map => k_is)
    (case a_frames_over => k_is)
    (case l_frames_over => k_is)
    (case e_frames_over => k_is)
    (case k_frames_over => k_is)
    (case a_composed => k_is)
    (case l_composed => k_is)
    (case e_composed => k_is)
    (case k_composed => k_is)
    (case a_is_frame => k_is)
    (case l_is_frame => k_is)
    (case e_is_frame => k_is)
    (case k_is_frame => k_is)
    (case a_are_nested => k_is)
    (case l_are_nested => k_is)
    (case e_are_nested => k_is)
    (case k_are_nested => k_is)
    (case a_are_parts => k_is)
    (case l_are_parts => k_is)
    (case e_are_parts => k_is)
    (case k_are_parts => k_is)
    (case a_own_matches => k_is)
    (case l_own_matches => k_is)
    (case e_own_matches => k_is)
    (case k_own_matches => k_is)
    (case a_need_times => k_is)
    (case l_need_times => k_is)
    (case e_need_times => k_is)
    (case k_need_times => k_is)
    (case a_frames_kept => k_is)
    (case l_frames_kept => k_is)
    (case e_frames_kept => k_is)
    (case k_frames_kept => k_is)
    (case a_inner_of => k_is)
    (case l_inner_of => k_is)
    (case e_inner_of => k_is)
    (case k_inner_of => k_is)
    (case a_power => k_is)
    (case l_power => k_is)
    (case e_power => k_is)
    (case k_power => k_is)
    (case a_l_pen => k_is)
    (case l_l_pen => k_is)
    (case e_l_pen => k_is)
    (case k_l_pen => k_is)
    (case a_l_draw => k_is)
    (case l_l_draw => k_is)
    (case e_l_draw => k_is)
    (case k_l_draw => k_is)
    (case a_l_labels => k_is)
    (case l_l_labels => k_is)
    (case e_l_labels => k_is)
    (case k_l_labels => k_is)
    (case a_l_number => k_is)
    (case l_l_number => k_is)
    (case e_l_number => k_is)
    (case k_l_number => k_is)
    (case a_l_deed => k_is)
    (case l_l_deed => k_is)
    (case e_l_deed => k_is)
    (case k_l_deed => k_is)
    (case a_l_steady => k_is)
    (case l_l_steady => k_is)
    (case e_l_steady => k_is)
    (case k_l_steady => k_is)
    (case a_l_adds => k_is)
    (case l_l_adds => k_is)
    (case e_l_adds => k_is)
    (case k_l_adds => k_is)
    (case a_l_small_right => k_is)
    (case l_l_small_right => k_is)
    (case e_l_small_right => k_is)
    (case k_l_small_right => k_is)
    (case a_l_great_right => k_is)
    (case l_l_great_right => k_is)
    (case e_l_great_right => k_is)
    (case k_l_great_right => k_is)
    (case a_law => k_is)
    (case l_law => k_is)
    (case e_law => k_is)
    (case k_law => k_is)

