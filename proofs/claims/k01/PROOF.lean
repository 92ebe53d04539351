import PyProof.Rows.All
import Wide.All
import OpenK.AllK
import Wide.FinOn
import HandS.ForMost
import HandS.ForExc
import HandS.Flow
import HandS.IsInst
import HandS.Wide
import HandS.Style
import HandS.TupAny
import HandS.NoneIn
import HandS.StrMore
import HandS.RaiseMore
import PyProof.ListStr
import HandS.More
import HandS.Conv
import HandS.HeadHook2
import HandS.HeadEnd
import HandS.Head0
import HandS.Head1
import HandS.Head2
import HandS.Ends
import KE.IntTextLaws
import PySem.Challenge.RW_roundless_k01_words_and_fractions
import PyProof.StrLawsChain
import KE.KStateDown
import HandS.HeadHook1
set_option Elab.async false
set_option linter.all false
set_option maxRecDepth 100000
set_option maxHeartbeats 4000000
/-! Data layer, first part: data, results, mirrors of expressions and statements (plain Lean). -/
namespace DL
open PySem PySem.Spec PyProof.Rows L2

/-- a thing as data: what is never changed stands as a whole, what may be changed stands by its number in the store -/
inductive D where
  | non | bl (b : Bool) | int (i : Int) | str (x : Str)
  | tup (xs : List D) | lst (xs : List D) | dct (kvs : List (D × D)) | dcn (kvs : List (D × D))
  | ptr (k : Nat) | fn (x : Str) | ty (n : String)
  deriving Inhabited

abbrev Sl := List (Option D)
abbrev Sto := List D
inductive Res (A : Type) where
  | ok (a : A) (S : Sto)
  | err (c : Str) (fs : List (Str × D)) (S : Sto)
  | stuck
abbrev RE := Sl → Sto → Res D
abbrev RB := Sl → Sto → Res Bool
abbrev RA := Sl → Sto → Res (List D)
abbrev RG := D → Sl → Sto → Res Sl
abbrev Mir := List D → Sto → Res D
inductive Out where
  | nx (δ : Sl) (S : Sto) | rt (d : D) (S : Sto) | bk (δ : Sl) (S : Sto) | ct (δ : Sl) (S : Sto)
  | err (c : Str) (fs : List (Str × D)) (δ : Sl) (S : Sto) | stuck
abbrev RS := Sl → Sto → Out

def Res.bind {A B : Type} (r : Res A) (f : A → Sto → Res B) : Res B := match r with
  | .ok a S => f a S
  | .err c fs S => .err c fs S
  | .stuck => .stuck
def Res.out (δ : Sl) {A : Type} (r : Res A) (f : A → Sto → Out) : Out := match r with
  | .ok a S => f a S
  | .err c fs S => .err c fs δ S
  | .stuck => .stuck
def Res.lift {A : Type} (o : Option A) (S : Sto) : Res A := match o with
  | some a => .ok a S
  | none => .stuck

def deref (S : Sto) : D → D
  | .ptr k => match S.getD k .non with
    | .non => .ptr k
    | d => d
  | d => d

/-! expressions -/
def rVar (i : Nat) : RE := fun δ S => match δ[i]? with
  | some (some d) => .ok d S
  | _ => .stuck
def rC (d : D) : RE := fun _ S => .ok d S
def rUn (g : Sto → D → Option D) (a : RE) : RE := fun δ S => (a δ S).bind fun x S1 => .lift (g S1 x) S1
def rBin (g : Sto → D → D → Option D) (a b : RE) : RE := fun δ S => (a δ S).bind fun x S1 => (b δ S1).bind fun y S2 => .lift (g S2 x y) S2
def rAs (g : Sto → List D → Option D) (a : RA) : RE := fun δ S => (a δ S).bind fun x S1 => .lift (g S1 x) S1
def rNil : RA := fun _ S => .ok [] S
def rCons (a : RE) (b : RA) : RA := fun δ S => (a δ S).bind fun x S1 => (b δ S1).bind fun ys S2 => .ok (x :: ys) S2
def rCall (m : Mir) (a : RA) : RE := fun δ S => (a δ S).bind m
def rIf (c : RB) (a b : RE) : RE := fun δ S => (c δ S).bind fun k S1 => if k then a δ S1 else b δ S1
def rOwn (a : RE) : RE := fun δ S => (a δ S).bind fun d S1 => .ok (.ptr S1.length) (S1 ++ [d])
def rTup (a : RA) : RE := fun δ S => (a δ S).bind fun xs S1 => if xs.length ≤ sizeLine then .ok (.tup xs) S1 else .stuck
def rLst (a : RA) : RE := fun δ S => (a δ S).bind fun xs S1 => if xs.length ≤ sizeLine then .ok (.lst xs) S1 else .stuck

def truth (S : Sto) (d : D) : Option Bool := match deref S d with
  | .non => some false
  | .bl b => some b
  | .int i => some (i != 0)
  | .str y => if y.length ≤ sizeLine then some ((y.length : Int) != 0) else none
  | .tup xs => some (!xs.isEmpty)
  | .lst xs => some (!xs.isEmpty)
  | _ => none
/-! tests -/
def bTru (a : RE) : RB := fun δ S => (a δ S).bind fun x S1 => .lift (truth S1 x) S1
def bAnd (a b : RB) : RB := fun δ S => (a δ S).bind fun k S1 => if k then b δ S1 else .ok false S1
def bOr (a b : RB) : RB := fun δ S => (a δ S).bind fun k S1 => if k then .ok true S1 else b δ S1
def bNot (a : RB) : RB := fun δ S => (a δ S).bind fun k S1 => .ok (!k) S1
/-! and, or, not as values -/
def rAnd (a b : RE) : RE := fun δ S => (a δ S).bind fun x S1 => (Res.lift (truth S1 x) S1).bind fun k S2 => if k then b δ S2 else .ok x S2
def rOr (a b : RE) : RE := fun δ S => (a δ S).bind fun x S1 => (Res.lift (truth S1 x) S1).bind fun k S2 => if k then .ok x S2 else b δ S2
def rNot (a : RE) : RE := fun δ S => (a δ S).bind fun x S1 => (Res.lift (truth S1 x) S1).bind fun k S2 => .ok (.bl (!k)) S2

/-! targets -/
def gName (i : Nat) : RG := fun d δ S => if i < δ.length then .ok (δ.set i (some d)) S else .stuck
def gNil : List D → Sl → Sto → Res Sl := fun ds δ S => match ds with
  | [] => .ok δ S
  | _ => .stuck
def gCons (g : RG) (u : List D → Sl → Sto → Res Sl) : List D → Sl → Sto → Res Sl := fun ds δ S => match ds with
  | d :: r => (g d δ S).bind fun δ1 S1 => u r δ1 S1
  | [] => .stuck
def gTup (u : List D → Sl → Sto → Res Sl) : RG := fun d δ S => match deref S d with
  | .tup ds => u ds δ S
  | _ => .stuck

/-! statements -/
def sNext : RS := fun δ S => .nx δ S
def sSeq (a b : RS) : RS := fun δ S => match a δ S with
  | .nx δ1 S1 => b δ1 S1
  | o => o
def sAsg (e : RE) (g : RG) : RS := fun δ S => (e δ S).out δ fun d S1 => (g d δ S1).out δ fun δ1 S2 => .nx δ1 S2
def sExpr (e : RE) : RS := fun δ S => (e δ S).out δ fun _ S1 => .nx δ S1
def sRet (e : RE) : RS := fun δ S => (e δ S).out δ fun d S1 => .rt d S1
def sIf (c : RB) (a b : RS) : RS := fun δ S => (c δ S).out δ fun k S1 => if k then a δ S1 else b δ S1
def sBreak : RS := fun δ S => .bk δ S
def sCont : RS := fun δ S => .ct δ S
def sNever : RS := fun _ _ => .stuck
def forL (g : RG) (b : RS) : List D → RS
  | [], δ, S => .nx δ S
  | x :: xs, δ, S => (g x δ S).out δ fun δ1 S1 => match b δ1 S1 with
    | .nx δ2 S2 => forL g b xs δ2 S2
    | .ct δ2 S2 => forL g b xs δ2 S2
    | .bk δ2 S2 => .nx δ2 S2
    | o => o
def sFor (it : RA) (g : RG) (b : RS) : RS := fun δ S => (it δ S).out δ fun xs S1 => forL g b xs δ S1
def whileL (c : RB) (b : RS) : Nat → RS
  | 0, _, _ => .stuck
  | n + 1, δ, S => (c δ S).out δ fun k S1 => if k then (match b δ S1 with
    | .nx δ2 S2 => whileL c b n δ2 S2
    | .ct δ2 S2 => whileL c b n δ2 S2
    | .bk δ2 S2 => .nx δ2 S2
    | o => o) else .nx δ S1
def sWhile (fuel : Sl → Sto → Nat) (c : RB) (b : RS) : RS := fun δ S => whileL c b (fuel δ S) δ S
/-- the turns of a list comprehension; δ: the slots without its own names -/
def lcL (g : RG) (t : RB) (e : RE) : List D → Sl → Sto → Res (List D)
  | [], _, S => .ok [] S
  | x :: xs, δ, S => (g x δ S).bind fun δ1 S1 => (t δ1 S1).bind fun k S2 =>
    if k then (e δ1 S2).bind fun y S3 => (lcL g t e xs δ S3).bind fun ys S4 => .ok (y :: ys) S4 else lcL g t e xs δ S2
def wipeD (δ : Sl) : List Nat → Sl
  | [] => δ
  | v :: vs => (wipeD δ vs).set v none
def noErr {A : Type} (r : Res A) : Res A := match r with
  | .err _ _ _ => .stuck
  | r => r
def bYes : RB := fun _ S => .ok true S
def rLc (it : RA) (g : RG) (vs : List Nat) (t : RB) (e : RE) : RE := fun δ S => (it δ S).bind fun xs S1 =>
  (noErr (lcL g t e xs (wipeD δ vs) S1)).bind fun ys S2 => if ys.length ≤ sizeLine then .ok (.lst ys) S2 else .stuck

/-! ghost steps -/
/-- the object of slot i is changed no more -/
def sFreeze (i : Nat) : RS := fun δ S => match δ[i]? with
  | some (some (.ptr k)) => (match S[k]? with
    | some (.lst ds) => .nx (δ.set i (some (.lst ds))) (S.set k .non)
    | _ => .stuck)
  | _ => .stuck
mutual
/-- nothing in it stands in the store from n on -/
def D.closed (n : Nat) : D → Bool
  | .ptr k => decide (k < n)
  | .tup xs => closedL n xs
  | .lst xs => closedL n xs
  | .dct kvs => closedK n kvs
  | .dcn kvs => closedK n kvs
  | _ => true
def closedL (n : Nat) : List D → Bool
  | [] => true
  | d :: r => D.closed n d && closedL n r
def closedK (n : Nat) : List (D × D) → Bool
  | [] => true
  | (k, v) :: r => D.closed n k && D.closed n v && closedK n r
end
def D.owned : D → Bool
  | .lst _ => true
  | .dct _ => true
  | _ => false
/-- a thing that a def made and gives away, to be changed further -/
def giveD (n : Nat) (d : D) (S1 : Sto) : Res D := match d with
  | .ptr k => (match S1[k]? with
    | some u => if u.owned && D.closed n u && decide (n ≤ k) && closedL n (S1.take n) then .ok (.ptr n) (S1.take n ++ [u]) else .stuck
    | none => .stuck)
  | _ => .stuck
/-- a def: n slots, its body; what it made itself in the store goes -/
def mDef (n : Nat) (b : RS) : Mir := fun ds S => match b (ds.map some ++ List.replicate (n - ds.length) none) S with
  | .rt d S1 => if D.closed S.length d && closedL S.length (S1.take S.length) then .ok d (S1.take S.length) else giveD S.length d S1
  | .nx _ S1 => if closedL S.length (S1.take S.length) then .ok .non (S1.take S.length) else .stuck
  | .err c fs _ S1 => if closedL S.length (fs.map (·.2)) && closedL S.length (S1.take S.length) then .err c fs (S1.take S.length) else .stuck
  | _ => .stuck
end DL

set_option Elab.async false
set_option linter.all false
set_option maxRecDepth 100000
set_option maxHeartbeats 4000000
set_option autoImplicit false
/-! Data layer, second part: what data are in the heap; the judgements. -/
namespace DL
open PySem PySem.Spec PyProof.Rows L2

abbrev Fg := PySem.W.Frag
/-- the heap F tells what stands for good, α where the store's objects are -/
inductive AllP {A B : Type} (R : A → B → Prop) : List A → List B → Prop
  | nil : AllP R [] []
  | cons {a b as bs} : R a b → AllP R as bs → AllP R (a :: as) (b :: bs)

inductive DKs : List Key → List D → Prop
  | nil : DKs [] []
  | int {i : Int} {ks : List Key} {ds : List D} : DKs ks ds → DKs (.inl i :: ks) (.int i :: ds)
  | str {x : Str} {ks : List Key} {ds : List D} : DKs ks ds → DKs (.inr x :: ks) (.str x :: ds)
theorem DKs.length : ∀ {ks : List Key} {ds : List D}, DKs ks ds → ks.length = ds.length
  | _, _, .nil => rfl
  | _, _, .int t => by rw [List.length_cons, List.length_cons, DKs.length t]
  | _, _, .str t => by rw [List.length_cons, List.length_cons, DKs.length t]
mutual
inductive DV (K : Fg) (mg : Str → Option Value) (F : Hp) (α : List Addr) : V → D → Prop
  | non : DV K mg F α .non .non
  | bl (b : Bool) : DV K mg F α (.bl b) (.bl b)
  | int (i : Int) : DV K mg F α (.int i) (.int i)
  | str (x : Str) : DV K mg F α (.str x) (.str x)
  | tup {a : Addr} {xs : List V} {ds : List D} : SqT K F a xs → DVs K mg F α xs ds → DV K mg F α (.ref a) (.tup ds)
  | lst {a : Addr} {xs : List V} {ds : List D} : SqL K F a xs → DVs K mg F α xs ds → DV K mg F α (.ref a) (.lst ds)
  | dct {a : Addr} {o : Obj} {ws : List (Key × V)} {ks : List Key} {vs : List V} {kvs : List (D × D)} : F a = some (.frz o (.dK ws)) → ws.map (·.1) = ks → ws.map (·.2) = vs → DKs ks (kvs.map (·.1)) → DVs K mg F α vs (kvs.map (·.2)) → DV K mg F α (.ref a) (.dct kvs)
  | ptr {k : Nat} {a : Addr} : α[k]? = some a → DV K mg F α (.ref a) (.ptr k)
  | fn {x : Str} {a : Addr} : mg x = some (.ref a) → DV K mg F α (.ref a) (.fn x)
  | ty (n : String) : DV K mg F α (.ty n) (.ty n)
inductive DVs (K : Fg) (mg : Str → Option Value) (F : Hp) (α : List Addr) : List V → List D → Prop
  | nil : DVs K mg F α [] []
  | cons {v : V} {d : D} {vs : List V} {ds : List D} : DV K mg F α v d → DVs K mg F α vs ds → DVs K mg F α (v :: vs) (d :: ds)
end

/-- more stands for good -/
def Sub (F F' : Hp) : Prop := ∀ a o, F a = some o → F' a = some o
theorem Sub.refl (F : Hp) : Sub F F := fun _ _ h => h
theorem Sub.trans {F F1 F2 : Hp} (a : Sub F F1) (b : Sub F1 F2) : Sub F F2 := fun x o h => b x o (a x o h)
theorem Sub.sqL {K : Fg} {F F' : Hp} {a : Addr} {xs : List V} (s : Sub F F') (h : SqL K F a xs) : SqL K F' a xs := by
  rcases h with (h | ⟨o, h⟩) | h
  · exact .inl (.inl (s _ _ h))
  · exact .inl (.inr ⟨o, s _ _ h⟩)
  · exact .inr h
theorem Sub.rd {F F' : Hp} {a : Addr} {u : HO} (s : Sub F F') (h : Rd F a u) : Rd F' a u := h.imp (s _ _) fun ⟨o, h⟩ => ⟨o, s _ _ h⟩
theorem Sub.sqT {K : Fg} {F F' : Hp} {a : Addr} {xs : List V} (s : Sub F F') (h : SqT K F a xs) : SqT K F' a xs := by
  rcases h with (h | ⟨o, h⟩) | h
  · exact .inl (.inl (s _ _ h))
  · exact .inl (.inr ⟨o, s _ _ h⟩)
  · exact .inr h
theorem Sub.new {F : Hp} {a : Addr} {o : HO} (h : F a = none) : Sub F (upd F a o) := fun b u e => by
  have : b ≠ a := fun z => by subst z; rw [h] at e; cases e
  rw [upd_ne this]; exact e

section
variable {K : Fg} {mg : Str → Option Value} {F F' : Hp} {α β : List Addr}
theorem at_app {A : Type} {l m : List A} {k : Nat} {a : A} (h : l[k]? = some a) : (l ++ m)[k]? = some a := by
  obtain ⟨hk, e⟩ := List.getElem?_eq_some_iff.mp h
  rw [List.getElem?_append_left hk]; exact h
mutual
theorem DV.mono {v : V} {d : D} (s : Sub F F') : DV K mg F α v d → DV K mg F' (α ++ β) v d
  | .non => .non
  | .bl b => .bl b
  | .int i => .int i
  | .str x => .str x
  | .tup h t => .tup (s.sqT h) (DVs.mono s t)
  | .lst h t => .lst (s.sqL h) (DVs.mono s t)
  | .dct h e1 e2 k t => .dct (s _ _ h) e1 e2 k (DVs.mono s t)
  | .ptr h => .ptr (at_app h)
  | .fn h => .fn h
  | .ty n => .ty n
theorem DVs.mono {vs : List V} {ds : List D} (s : Sub F F') : DVs K mg F α vs ds → DVs K mg F' (α ++ β) vs ds
  | .nil => .nil
  | .cons h t => .cons (DV.mono s h) (DVs.mono s t)
end
theorem DVs.length : ∀ {vs : List V} {ds : List D}, DVs K mg F α vs ds → vs.length = ds.length
  | _, _, .nil => rfl
  | _, _, .cons _ t => by rw [List.length_cons, List.length_cons, DVs.length t]
theorem DVs.get : ∀ {vs : List V} {ds : List D} {i : Nat} {d : D}, DVs K mg F α vs ds → ds[i]? = some d → ∃ v, vs[i]? = some v ∧ DV K mg F α v d
  | _, _, _, _, .nil, e => by simp at e
  | _, _, 0, _, .cons h _, e => by simp at e; subst e; exact ⟨_, rfl, h⟩
  | _, _, i + 1, d, .cons _ t, e => by
    obtain ⟨v, h1, h2⟩ := DVs.get (i := i) (d := d) t (by simpa using e)
    exact ⟨v, by simpa using h1, h2⟩
theorem DVs.getV : ∀ {vs : List V} {ds : List D} {i : Nat} {v : V}, DVs K mg F α vs ds → vs[i]? = some v → ∃ d, ds[i]? = some d ∧ DV K mg F α v d
  | _, _, _, _, .nil, e => by simp at e
  | _, _, 0, _, .cons h _, e => by simp at e; subst e; exact ⟨_, rfl, h⟩
  | _, _, i + 1, v, .cons _ t, e => by
    obtain ⟨d, h1, h2⟩ := DVs.getV (i := i) (v := v) t (by simpa using e)
    exact ⟨d, by simpa using h1, h2⟩
theorem DVs.append : ∀ {vs ws : List V} {ds es : List D}, DVs K mg F α vs ds → DVs K mg F α ws es → DVs K mg F α (vs ++ ws) (ds ++ es)
  | _, _, _, _, .nil, s => s
  | _, _, _, _, .cons h t, s => .cons h (DVs.append t s)
theorem DVs.take : ∀ {vs : List V} {ds : List D} (n : Nat), DVs K mg F α vs ds → DVs K mg F α (vs.take n) (ds.take n)
  | _, _, 0, _ => .nil
  | _, _, _ + 1, .nil => .nil
  | _, _, n + 1, .cons h t => .cons h (DVs.take n t)
theorem DVs.drop : ∀ {vs : List V} {ds : List D} (n : Nat), DVs K mg F α vs ds → DVs K mg F α (vs.drop n) (ds.drop n)
  | _, _, 0, h => h
  | _, _, _ + 1, .nil => .nil
  | _, _, n + 1, .cons _ t => DVs.drop n t
theorem DVs.set {v : V} {d : D} (h : DV K mg F α v d) : ∀ {vs : List V} {ds : List D} (i : Nat), DVs K mg F α vs ds → DVs K mg F α (vs.set i v) (ds.set i d)
  | _, _, _, .nil => .nil
  | _, _, 0, .cons _ t => .cons h t
  | _, _, i + 1, .cons q t => .cons q (DVs.set h i t)
theorem DVs.eraseIdx : ∀ {vs : List V} {ds : List D} (i : Nat), DVs K mg F α vs ds → DVs K mg F α (vs.eraseIdx i) (ds.eraseIdx i)
  | _, _, _, .nil => .nil
  | _, _, 0, .cons _ t => t
  | _, _, i + 1, .cons q t => .cons q (DVs.eraseIdx i t)
theorem DVs.reverse {vs : List V} {ds : List D} (h : DVs K mg F α vs ds) : DVs K mg F α vs.reverse ds.reverse := by
  induction vs generalizing ds with
  | nil => cases h; exact .nil
  | cons v r ih =>
    cases h with
    | cons h t =>
      rw [List.reverse_cons, List.reverse_cons]
      exact DVs.append (ih t) (.cons h .nil)
theorem DVs.ints : ∀ {vs : List V} {ns : List Int}, DVs K mg F α vs (ns.map .int) → vs = ns.map .int
  | _, [], h => by cases h; rfl
  | _, n :: r, h => by
    cases h with
    | cons h t => cases h; rw [DVs.ints t]; rfl
theorem DVs.strs : ∀ {vs : List V} {ns : List Str}, DVs K mg F α vs (ns.map .str) → vs = ns.map .str
  | _, [], h => by cases h; rfl
  | _, n :: r, h => by
    cases h with
    | cons h t => cases h; rw [DVs.strs t]; rfl
theorem DVs.bls : ∀ {vs : List V} {ns : List Bool}, DVs K mg F α vs (ns.map .bl) → vs = ns.map .bl
  | _, [], h => by cases h; rfl
  | _, n :: r, h => by
    cases h with
    | cons h t => cases h; rw [DVs.bls t]; rfl
theorem DVs.of_ints : ∀ ns : List Int, DVs K mg F α (ns.map .int) (ns.map .int)
  | [] => .nil
  | n :: r => .cons (.int n) (DVs.of_ints r)
theorem DVs.of_strs : ∀ ns : List Str, DVs K mg F α (ns.map .str) (ns.map .str)
  | [] => .nil
  | n :: r => .cons (.str n) (DVs.of_strs r)
theorem DVs.of_bls : ∀ ns : List Bool, DVs K mg F α (ns.map .bl) (ns.map .bl)
  | [] => .nil
  | n :: r => .cons (.bl n) (DVs.of_bls r)
end

/-- the store's object at a is d -/
def Own (K : Fg) (mg : Str → Option Value) (F : Hp) (α : List Addr) (H : Hp) (a : Addr) : D → Prop
  | .lst ds => ∃ xs, H a = some (.lst xs) ∧ DVs K mg F α xs ds
  | .dct kvs => ∃ ws : List (Key × V), H a = some (.dK ws) ∧ DKs (ws.map (·.1)) (kvs.map (·.1)) ∧ DVs K mg F α (ws.map (·.2)) (kvs.map (·.2))
  | .non => True
  | _ => False
structure Rel (K : Fg) (mg : Str → Option Value) (α : List Addr) (F H : Hp) (S : Sto) : Prop where
  sub : Sub F H
  len : α.length = S.length
  nd : α.Nodup
  here : ∀ a ∈ α, ∃ o, H a = some o
  own : ∀ (k : Nat) (a : Addr) (d : D), α[k]? = some a → S[k]? = some d → Own K mg F α H a d ∧ (d ≠ .non → F a = none)
/-- what stood and isn't the store's stands -/
structure Stp (α : List Addr) (F H : Hp) (β : List Addr) (F' H' : Hp) : Prop where
  new : ∀ b ∈ β, H b = none
  sub : Sub F F'
  frame : ∀ a o, a ∉ α → H a = some o → H' a = some o
  live : ∀ a, H' a = none → H a = none
  fnew : ∀ a, a ∉ α → F a = none → H a ≠ none → F' a = none
theorem Stp.refl {α : List Addr} {F H : Hp} : Stp α F H [] F H := ⟨(fun _ h => nomatch h), Sub.refl F, fun _ _ _ h => h, fun _ h => h, fun _ _ h _ => h⟩
theorem Stp.trans {α β γ : List Addr} {F H F1 H1 F2 H2 : Hp} (a : Stp α F H β F1 H1) (b : Stp (α ++ β) F1 H1 γ F2 H2) : Stp α F H (β ++ γ) F2 H2 := by
  have fr : ∀ x o, x ∉ α → H x = some o → H2 x = some o := fun x o n e => b.frame x o (fun z => by
    rcases List.mem_append.mp z with z | z
    · exact n z
    · rw [a.new x z] at e; cases e) (a.frame x o n e)
  refine ⟨fun x hx => ?_, a.sub.trans b.sub, fr, fun x h => a.live x (b.live x h), fun x h1 h2 h3 => b.fnew x (fun z => ?_) (a.fnew x h1 h2 h3) fun z => h3 (a.live x z)⟩
  rotate_left
  · rcases List.mem_append.mp z with z | z
    · exact h1 z
    · exact h3 (a.new x z)
  rcases List.mem_append.mp hx with z | z
  · exact a.new x z
  · exact a.live x (b.new x z)
section
variable {K : Fg} {mg : Str → Option Value} {α β : List Addr} {F F' H H' : Hp} {S S' : Sto}
theorem Own.mono {a : Addr} {d : D} (s : Sub F F') (e : H' a = H a) (h : Own K mg F α H a d) : Own K mg F' (α ++ β) H' a d := by
  cases d with
  | lst ds => obtain ⟨xs, h1, h2⟩ := h; exact ⟨xs, e.trans h1, h2.mono s⟩
  | dct kvs => obtain ⟨ws, h1, h2, h3⟩ := h; exact ⟨ws, e.trans h1, h2, h3.mono s⟩
  | non => trivial
  | _ => exact h.elim
theorem Rel.notF (r : Rel K mg α F H S) {p : Addr} (hp : H p = none) : F p = none := by
  cases e : F p with
  | none => rfl
  | some u => rw [r.sub _ _ e] at hp; cases hp
theorem Rel.notin (r : Rel K mg α F H S) {p : Addr} (hp : H p = none) : p ∉ α := fun h => by
  obtain ⟨o, e⟩ := r.here p h
  rw [hp] at e; cases e
theorem upd_some {H : Hp} {p a : Addr} {o u : HO} (hp : H p = none) (e : H a = some u) : upd H p o a = some u := by
  have z : a ≠ p := fun z => by subst z; rw [hp] at e; cases e
  rw [upd_ne z]; exact e
theorem upd_none {H : Hp} {p a : Addr} {o : HO} (h : upd H p o a = none) : H a = none := by
  by_cases z : a = p
  · subst z; rw [upd_same] at h; cases h
  · rw [upd_ne z] at h; exact h
theorem Sub.upd {F H : Hp} {p : Addr} {o : HO} (s : Sub F H) : Sub (upd F p o) (L2.upd H p o) := fun a u e => by
  by_cases z : a = p
  · subst z; rw [upd_same] at e ⊢; exact e
  · rw [upd_ne z] at e ⊢; exact s _ _ e
theorem Stp.ofNew {p : Addr} {o : HO} (hp : H p = none) (sb : Sub F F') (h : ∀ b ∈ β, b = p) (hf : ∀ a, a ≠ p → F a = none → F' a = none) : Stp α F H β F' (upd H p o) :=
  ⟨fun b hb => by rw [h b hb]; exact hp, sb, fun a u _ e => upd_some hp e, fun a e => upd_none e, fun a _ h2 h3 => hf a (fun z => h3 (z ▸ hp)) h2⟩
theorem Rel.other (r : Rel K mg α F H S) {p : Addr} {o : HO} (hp : p ∉ α) (hf : F p = none) : Rel K mg α F (upd H p o) S := by
  refine ⟨fun a u e => ?_, r.len, r.nd, fun a h => ?_, fun k a d h1 h2 => ?_⟩
  · have z : a ≠ p := fun z => by subst z; rw [hf] at e; cases e
    rw [upd_ne z]; exact r.sub _ _ e
  · have z : a ≠ p := fun z => hp (z ▸ h)
    obtain ⟨u, e⟩ := r.here a h
    exact ⟨u, by rw [upd_ne z]; exact e⟩
  · obtain ⟨h3, h4⟩ := r.own k a d h1 h2
    have z : a ≠ p := fun z => hp (z ▸ List.mem_of_getElem? h1)
    have h5 : Own K mg F (α ++ []) (upd H p o) a d := h3.mono (Sub.refl F) (upd_ne z)
    rw [List.append_nil] at h5
    exact ⟨h5, h4⟩
theorem Stp.other (s : Stp α F H β F' H') {p : Addr} {o : HO} (hp : H p = none) : Stp α F H β F' (upd H' p o) := by
  refine ⟨s.new, s.sub, fun a u h e => ?_, fun a e => s.live a (upd_none e), s.fnew⟩
  have z : a ≠ p := fun z => by subst z; rw [hp] at e; cases e
  rw [upd_ne z]; exact s.frame a u h e
/-- a new thing that stands for good -/
theorem Rel.newF (r : Rel K mg α F H S) {p : Addr} {o : HO} (hp : H p = none) : Rel K mg (α ++ []) (upd F p o) (upd H p o) S ∧ Stp α F H [] (upd F p o) (upd H p o) := by
  have hF := r.notF hp
  have sb : Sub F (upd F p o) := Sub.new hF
  refine ⟨⟨r.sub.upd, by rw [List.append_nil]; exact r.len, by rw [List.append_nil]; exact r.nd, fun a h => ?_, fun k a d h1 h2 => ?_⟩, Stp.ofNew hp sb (fun _ h => nomatch h) fun a z e => by rw [upd_ne z]; exact e⟩
  · rw [List.append_nil] at h
    obtain ⟨u, e⟩ := r.here a h
    exact ⟨u, upd_some hp e⟩
  · rw [List.append_nil] at h1
    obtain ⟨h3, h4⟩ := r.own k a d h1 h2
    have z : a ≠ p := fun z => r.notin hp (z ▸ List.mem_of_getElem? h1)
    exact ⟨h3.mono sb (upd_ne z), fun hd => by rw [upd_ne z]; exact h4 hd⟩
/-- a new thing of the store -/
theorem Rel.newO (r : Rel K mg α F H S) {p : Addr} {o : HO} {d : D} (hp : H p = none) (hd : Own K mg F (α ++ [p]) (upd H p o) p d) : Rel K mg (α ++ [p]) F (upd H p o) (S ++ [d]) ∧ Stp α F H [p] F (upd H p o) := by
  have hF := r.notF hp
  refine ⟨⟨fun a u e => upd_some hp (r.sub _ _ e), by rw [List.length_append, List.length_append, r.len]; rfl, ?_, fun a h => ?_, fun k a e h1 h2 => ?_⟩, Stp.ofNew hp (Sub.refl F) (fun b h => by simpa using h) fun a _ e => e⟩
  · refine List.nodup_append.mpr ⟨r.nd, by simp, fun a ha b hb z => ?_⟩
    have : b = p := by simpa using hb
    subst this; subst z
    exact r.notin hp ha
  · rcases List.mem_append.mp h with h | h
    · obtain ⟨u, e⟩ := r.here a h
      exact ⟨u, upd_some hp e⟩
    · have : a = p := by simpa using h
      subst this
      exact ⟨_, upd_same⟩
  · have hk : k < (α ++ [p]).length := (List.getElem?_eq_some_iff.mp h1).1
    by_cases q : k < α.length
    · rw [List.getElem?_append_left q] at h1
      rw [List.getElem?_append_left (by rw [← r.len]; exact q)] at h2
      obtain ⟨h3, h4⟩ := r.own k a e h1 h2
      have z : a ≠ p := fun z => r.notin hp (z ▸ List.mem_of_getElem? h1)
      exact ⟨h3.mono (Sub.refl F) (upd_ne z), h4⟩
    · have hk' : k = α.length := by rw [List.length_append] at hk; simp at hk; omega
      subst hk'
      rw [List.getElem?_append_right (Nat.le_refl _), Nat.sub_self] at h1
      rw [r.len, List.getElem?_append_right (Nat.le_refl _), Nat.sub_self] at h2
      simp at h1 h2
      subst h1; subst h2
      exact ⟨hd, fun _ => hF⟩
/-- the store's object k is changed -/
theorem Rel.setO (r : Rel K mg α F H S) {k : Nat} {a : Addr} {o : HO} {d e : D} (h1 : α[k]? = some a) (h2 : S[k]? = some e) (he : e ≠ .non) (hd : Own K mg F α (upd H a o) a d) :
    Rel K mg (α ++ []) F (upd H a o) (S.set k d) ∧ Stp α F H [] F (upd H a o) := by
  obtain ⟨_, q⟩ := r.own k a e h1 h2
  have hF := q he
  have hn := r.nd
  have ha : a ∈ α := List.mem_of_getElem? h1
  refine ⟨⟨fun b u e => ?_, by rw [List.append_nil, List.length_set]; exact r.len, by rw [List.append_nil]; exact r.nd, fun b h => ?_, fun j b u g1 g2 => ?_⟩, ⟨(fun _ h => nomatch h), Sub.refl F, fun b u hb e => ?_, fun b e => upd_none e, fun _ _ h _ => h⟩⟩
  · have z : b ≠ a := fun z => by subst z; rw [hF] at e; cases e
    rw [upd_ne z]; exact r.sub _ _ e
  · rw [List.append_nil] at h
    by_cases z : b = a
    · subst z; exact ⟨_, upd_same⟩
    · obtain ⟨u, e⟩ := r.here b h
      exact ⟨u, by rw [upd_ne z]; exact e⟩
  · rw [List.append_nil] at g1
    by_cases z : j = k
    · subst z
      rw [h1] at g1; cases g1
      rw [List.getElem?_set_self (List.getElem?_eq_some_iff.mp h2).1] at g2
      cases g2
      rw [List.append_nil]
      exact ⟨hd, fun _ => hF⟩
    · rw [List.getElem?_set_ne (Ne.symm z)] at g2
      obtain ⟨h3, h4⟩ := r.own j b u g1 g2
      have y : b ≠ a := fun y => by
        subst y
        exact z ((List.getElem_inj hn).mp ((List.getElem?_eq_some_iff.mp g1).2.trans (List.getElem?_eq_some_iff.mp h1).2.symm))
      exact ⟨h3.mono (Sub.refl F) (upd_ne y), h4⟩
  · have z : b ≠ a := fun z => hb (z ▸ ha)
    rw [upd_ne z]; exact e
end

section
variable {K : Fg} {mg : Str → Option Value} {α β : List Addr} {F F' H H' : Hp} {S S' : Sto}
/-- a thing that stands by itself becomes the store's -/
theorem Rel.adopt (r : Rel K mg α F H S) {p : Addr} {d : D} (hp : p ∉ α) (hf : F p = none) (hd : Own K mg F α H p d) (hn : d ≠ .non) : Rel K mg (α ++ [p]) F H (S ++ [d]) := by
  have ex : ∃ o, H p = some o := by
    cases d with
    | lst ds => obtain ⟨xs, e, _⟩ := hd; exact ⟨_, e⟩
    | dct kvs => obtain ⟨xs, e, _⟩ := hd; exact ⟨_, e⟩
    | non => exact absurd rfl hn
    | _ => exact hd.elim
  refine ⟨r.sub, by rw [List.length_append, List.length_append, r.len]; rfl, ?_, fun a h => ?_, fun k a e h1 h2 => ?_⟩
  · refine List.nodup_append.mpr ⟨r.nd, by simp, fun a ha b hb z => ?_⟩
    have : b = p := by simpa using hb
    subst this; subst z
    exact hp ha
  · rcases List.mem_append.mp h with h | h
    · exact r.here a h
    · have : a = p := by simpa using h
      subst this
      exact ex
  · have hk : k < (α ++ [p]).length := (List.getElem?_eq_some_iff.mp h1).1
    by_cases q : k < α.length
    · rw [List.getElem?_append_left q] at h1
      rw [List.getElem?_append_left (by rw [← r.len]; exact q)] at h2
      obtain ⟨h3, h4⟩ := r.own k a e h1 h2
      exact ⟨h3.mono (Sub.refl F) rfl, h4⟩
    · have hk' : k = α.length := by rw [List.length_append] at hk; simp at hk; omega
      subst hk'
      rw [List.getElem?_append_right (Nat.le_refl _), Nat.sub_self] at h1
      rw [r.len, List.getElem?_append_right (Nat.le_refl _), Nat.sub_self] at h2
      simp at h1 h2
      subst h1; subst h2
      exact ⟨hd.mono (Sub.refl F) rfl, fun _ => hf⟩
/-- a thing that stands by itself stands for good -/
theorem Rel.freeze (r : Rel K mg α F H S) {p : Addr} {o : HO} (hp : p ∉ α) (hf : F p = none) (ho : H p = some o) : Rel K mg α (upd F p o) H S ∧ Sub F (upd F p o) := by
  have sb : Sub F (upd F p o) := Sub.new hf
  refine ⟨⟨fun a u e => ?_, r.len, r.nd, r.here, fun k a d h1 h2 => ?_⟩, sb⟩
  · by_cases z : a = p
    · subst z; rw [upd_same] at e; rw [ho]; exact e
    · rw [upd_ne z] at e; exact r.sub _ _ e
  · obtain ⟨h3, h4⟩ := r.own k a d h1 h2
    have z : a ≠ p := fun z => hp (z ▸ List.mem_of_getElem? h1)
    have h5 : Own K mg (upd F p o) (α ++ []) H a d := h3.mono sb rfl
    rw [List.append_nil] at h5
    exact ⟨h5, fun hd => by rw [upd_ne z]; exact h4 hd⟩
end
/-! ### what is wanted of a result -/
def ErrAt (K : Fg) (mg : Str → Option Value) (F : Hp) (α : List Addr) (c : Str) (fs : List (Str × D)) (cls : Value) (dd : Option Addr) (H : Hp) : Prop :=
  mg c = some cls ∧ (fs = [] ∨ ∃ d xs, dd = some d ∧ H d = some (.xd xs) ∧ xs.map (·.1) = fs.map (·.1) ∧ DVs K mg F α (xs.map (·.2)) (fs.map (·.2)))
abbrev RelT (B A : Type) := Hp → List Addr → B → A → Prop
def wp {A B : Type} (K : Fg) (mg : Str → Option Value) (α : List Addr) (F H : Hp) (rel : RelT B A) (r : Res A) (Q : B → Hp → Prop) (W : XK) : Prop := match r with
  | .ok a S' => ∀ b H' β F', Rel K mg (α ++ β) F' H' S' → Stp α F H β F' H' → rel F' (α ++ β) b a → Q b H'
  | .err c fs S' => ∀ cls dd H' β F', Rel K mg (α ++ β) F' H' S' → Stp α F H β F' H' → ErrAt K mg F' (α ++ β) c fs cls dd H' → W cls dd H'
  | .stuck => False
section
variable {A B A' B' : Type} {K : Fg} {mg : Str → Option Value} {α β : List Addr} {F F1 H H1 : Hp} {S : Sto} {rel : RelT B A} {rel' : RelT B' A'} {r : Res A} {Q Q1 : B → Hp → Prop} {Q' : B' → Hp → Prop} {W : XK}
theorem wp.step (st : Stp α F H β F1 H1) (h : wp K mg α F H rel r Q W) : wp K mg (α ++ β) F1 H1 rel r Q W := by
  cases r with
  | ok a S' => intro b H' γ F' hr hs hv; rw [List.append_assoc] at hr hv; exact h b H' (β ++ γ) F' hr (st.trans hs) hv
  | err c fs S' => intro cls dd H' γ F' hr hs hv; rw [List.append_assoc] at hr hv; exact h cls dd H' (β ++ γ) F' hr (st.trans hs) hv
  | stuck => exact h
theorem wp.bind {f : A → Sto → Res A'} (h : wp K mg α F H rel' (r.bind f) Q' W)
    (k : ∀ a S1, r = .ok a S1 → ∀ x H1 β F1, Rel K mg (α ++ β) F1 H1 S1 → Stp α F H β F1 H1 → rel F1 (α ++ β) x a → wp K mg (α ++ β) F1 H1 rel' (f a S1) Q' W → Q1 x H1) : wp K mg α F H rel r Q1 W := by
  cases r with
  | ok a S' => exact fun b H' β F' hr hs hv => k a S' rfl b H' β F' hr hs hv (wp.step hs h)
  | err c fs S' => exact h
  | stuck => exact h
theorem wp.imp (h : wp K mg α F H rel r Q W) (k : ∀ b H', Q b H' → Q1 b H') : wp K mg α F H rel r Q1 W := by
  cases r with
  | ok a S' => exact fun b H' β F' hr hs hv => k b H' (h b H' β F' hr hs hv)
  | err c fs S' => exact h
  | stuck => exact h
/-- a result that is at hand -/
theorem wp.now {a : A} (h : wp K mg α F H rel (.ok a S) Q W) (hr : Rel K mg α F H S) {b : B} (hv : rel F α b a) : Q b H := by
  have e : α ++ [] = α := List.append_nil α
  exact h b H [] F (by rw [e]; exact hr) Stp.refl (by rw [e]; exact hv)
theorem wp.lift {o : Option A} (h : wp K mg α F H rel (.lift o S) Q W) : ∃ a, o = some a ∧ wp K mg α F H rel (.ok a S) Q W := by
  cases o with
  | some a => exact ⟨a, rfl, h⟩
  | none => exact h.elim
end
def Slots (K : Fg) (mg : Str → Option Value) (F : Hp) (α : List Addr) (σ : L2.St) (δ : Sl) : Prop :=
  σ.length = δ.length ∧ ∀ (i : Nat) (d : D), δ[i]? = some (some d) → ∃ v, σ[i]? = some (some v) ∧ DV K mg F α v d
theorem Slots.mono {K : Fg} {mg : Str → Option Value} {F F' : Hp} {α β : List Addr} {σ : L2.St} {δ : Sl} (h : Slots K mg F α σ δ) (s : Sub F F') : Slots K mg F' (α ++ β) σ δ :=
  ⟨h.1, fun i d e => let ⟨v, h1, h2⟩ := h.2 i d e; ⟨v, h1, h2.mono s⟩⟩
theorem Slots.set {K : Fg} {mg : Str → Option Value} {F : Hp} {α : List Addr} {σ : L2.St} {δ : Sl} {i : Nat} {v : V} {d : D} (h : Slots K mg F α σ δ) (hv : DV K mg F α v d) : Slots K mg F α (σ.set i (some v)) (δ.set i (some d)) := by
  refine ⟨by rw [List.length_set, List.length_set]; exact h.1, fun j e g => ?_⟩
  by_cases z : j = i
  · subst z
    have hj : j < δ.length := by
      have := (List.getElem?_eq_some_iff.mp g).1
      rw [List.length_set] at this; exact this
    rw [List.getElem?_set_self hj] at g
    cases g
    exact ⟨v, List.getElem?_set_self (by rw [h.1]; exact hj), hv⟩
  · rw [List.getElem?_set_ne (Ne.symm z)] at g
    rw [List.getElem?_set_ne (Ne.symm z)]
    exact h.2 j e g
def relD (K : Fg) (mg : Str → Option Value) : RelT V D := fun F α v d => DV K mg F α v d
def relB : RelT Bool Bool := fun _ _ b a => b = a
def relA (K : Fg) (mg : Str → Option Value) : RelT (List V) (List D) := fun F α v d => DVs K mg F α v d

def SndE (K : Fg) (mg : Str → Option Value) (W : WX) (t : TE) (r : RE) : Prop := ∀ α F σ H δ S (Q : VK), Rel K mg α F H S → Slots K mg F α σ δ → wp K mg α F H (relD K mg) (r δ S) Q (fun c d H' => W c d σ H') → t σ H Q
def SndB (K : Fg) (mg : Str → Option Value) (W : WX) (t : TT) (r : RB) : Prop := ∀ α F σ H δ S (Q : Bool → Hp → Prop), Rel K mg α F H S → Slots K mg F α σ δ → wp K mg α F H relB (r δ S) Q (fun c d H' => W c d σ H') → t σ H Q
def SndA (K : Fg) (mg : Str → Option Value) (W : WX) (t : TA) (r : RA) : Prop := ∀ α F σ H δ S (Q : List V → Hp → Prop), Rel K mg α F H S → Slots K mg F α σ δ → wp K mg α F H (relA K mg) (r δ S) Q (fun c d H' => W c d σ H') → t σ H Q
/-- an expression, a test, arguments by their mirrors -/
structure PD (X : Cx) (W : WX) (e : Expr) (r : RE) : Prop where
  ex : ∃ t, PE X e t ∧ SndE X.K X.mg W t r
structure PB (X : Cx) (W : WX) (e : Expr) (r : RB) : Prop where
  ex : ∃ t, PT X e t ∧ SndB X.K X.mg W t r
structure PBw (X : Cx) (W : WX) (e : Expr) (r : RB) : Prop where
  ex : ∃ t, PW X e t ∧ SndB X.K X.mg W t r
structure PDs (X : Cx) (W : WX) (es : List Expr) (r : RA) : Prop where
  ex : ∃ t, PA X es t ∧ SndA X.K X.mg W t r
  len : ∀ δ S ds S', r δ S = .ok ds S' → ds.length = es.length

section
variable {X : Cx} {W : WX} {a b c e : Expr} {es rest : List Expr} {ra rb rc : RE} {ba bb : RB} {rs : RA} {pos p : Pos}
theorem pd_var (i : Nat) {x : Str} {pos : Pos} (hN : X.N[i]? = some x := by rfl) (hv : Vis X.env.scope x := by first | exact Or.inl rfl | exact Or.inr (Or.inl rfl) | exact Or.inr (Or.inr rfl)) (hd : (x == ("__debug__" : Str)) = false := by decide) (hcd : (x == ("__classdict__" : Str)) = false := by decide) : PD X W (.Name x pos) (rVar i) := by
  refine ⟨tVar i, pe_var hN hv hd hcd, fun α F σ H δ S Q hr hs h => ?_⟩
  unfold rVar at h
  split at h
  · rename_i d e
    obtain ⟨v, h1, h2⟩ := hs.2 i d e
    exact ⟨v, h1, h.now hr h2⟩
  · exact h.elim
theorem pd_c {d : D} {v : V} (h : PE X e (tC v)) (hv : ∀ F α, DV X.K X.mg F α v d) : PD X W e (rC d) := ⟨tC v, h, fun α F σ H δ S Q hr hs h => h.now hr (hv F α)⟩
theorem pd_int {i : Int} {j : Nat} : PD X W (.Constant (.int i) j pos) (rC (.int i)) := pd_c pe_int fun _ _ => .int i
theorem pd_bl {i : Bool} {j : Nat} : PD X W (.Constant (.bool i) j pos) (rC (.bl i)) := pd_c pe_bl fun _ _ => .bl i
theorem pd_non {j : Nat} : PD X W (.Constant .none j pos) (rC .non) := pd_c pe_non fun _ _ => .non
theorem pd_str {x : Str} {j : Nat} : PD X W (.Constant (.str x) j pos) (rC (.str x)) := pd_c pe_str fun _ _ => .str x
/-- a module's constant: an int, a text -/
theorem pd_gi {x : Str} {i : Int} {t : Tok} (hm : X.mg x = some (.int i t)) (hg : Gl X x := by rfl) (hd : (x == ("__debug__" : Str)) = false := by decide) : PD X W (.Name x pos) (rC (.int i)) := pd_c (v := .int i) (pe_glob hg hm ⟨t, rfl⟩ hd) fun _ _ => .int i
theorem pd_gs {x y : Str} {t : Tok} (hm : X.mg x = some (.str y t)) (hg : Gl X x := by rfl) (hd : (x == ("__debug__" : Str)) = false := by decide) : PD X W (.Name x pos) (rC (.str y)) := pd_c (v := .str y) (pe_glob hg hm ⟨t, rfl⟩ hd) fun _ _ => .str y

/-! operators by values -/
def OkG (X : Cx) (r : R2) (g : Sto → D → D → Option D) : Prop := ∀ α F H S (x y : V) (d e z : D) (Q : VK), Rel X.K X.mg α F H S → DV X.K X.mg F α x d → DV X.K X.mg F α y e → g S d e = some z →
  (∀ v H' β F', Rel X.K X.mg (α ++ β) F' H' S → Stp α F H β F' H' → DV X.K X.mg F' (α ++ β) v z → Q v H') → r x y H Q
structure OpG (X : Cx) (f : Value → Value → Sem Value) (g : Sto → D → D → Option D) : Prop where
  ex : ∃ r, OpR X f r ∧ OkG X r g
theorem SndE.bin {K : Fg} {mg : Str → Option Value} {ta tb : TE} {g : Sto → D → D → Option D} {k : V → V → Hp → VK → Prop} (sa : SndE K mg W ta ra) (sb : SndE K mg W tb rb)
    (hk : ∀ α F H S (x y : V) (d e z : D) (Q : VK), Rel K mg α F H S → DV K mg F α x d → DV K mg F α y e → g S d e = some z →
      (∀ v H' β F', Rel K mg (α ++ β) F' H' S → Stp α F H β F' H' → DV K mg F' (α ++ β) v z → Q v H') → k x y H Q) :
    SndE K mg W (fun σ H Q => ta σ H fun x H1 => tb σ H1 fun y H2 => k x y H2 Q) (rBin g ra rb) := by
  intro α F σ H δ S Q hr hs h
  refine sa α F σ H δ S _ hr hs (wp.bind h fun d S1 _ x H1 β F1 r1 s1 v1 h1 => ?_)
  refine sb (α ++ β) F1 σ H1 δ S1 _ r1 (hs.mono s1.sub) (wp.bind h1 fun e S2 _ y H2 γ F2 r2 s2 v2 h2 => ?_)
  obtain ⟨z, e1, h3⟩ := wp.lift h2
  exact hk (α ++ β ++ γ) F2 H2 S2 x y d e z Q r2 (v1.mono s2.sub) v2 e1 fun v H' ε F' r3 s3 v3 => h3 v H' ε F' r3 s3 v3
theorem pd_bin {op : Operator} {g : Sto → D → D → Option D} (ho : OpG X (binaryOp op) g) (ha : PD X W a ra) (hb : PD X W b rb) : PD X W (.BinOp a op b pos) (rBin g ra rb) := by
  obtain ⟨r, h1, h2⟩ := ho.ex
  obtain ⟨ta, pa, sa⟩ := ha.ex
  obtain ⟨tb, pb, sb⟩ := hb.ex
  exact ⟨_, pe_op h1 pa pb, sa.bin sb h2⟩
theorem pd_cmp {op : CmpOp} {g : Sto → D → D → Option D} (ho : OpG X (compareOp op) g) (ha : PD X W a ra) (hb : PD X W b rb) (hm : behindInMarks op b = false) : PD X W (.Compare a [op] [b] pos) (rBin g ra rb) := by
  obtain ⟨r, h1, h2⟩ := ho.ex
  obtain ⟨ta, pa, sa⟩ := ha.ex
  obtain ⟨tb, pb, sb⟩ := hb.ex
  exact ⟨_, pe_cmpR h1 pa pb hm, sa.bin sb h2⟩
/-- the truth of a True or False -/
def bVal (a : RE) : RB := fun δ S => (a δ S).bind fun x S1 => match x with
  | .bl b => .ok b S1
  | _ => .stuck
theorem SndE.val {K : Fg} {mg : Str → Option Value} {t : TE} (s : SndE K mg W t ra) : SndB K mg W (tTest t) (bVal ra) := by
  intro α F σ H δ S Q hr hs h
  refine s α F σ H δ S _ hr hs (wp.bind h fun d S1 _ x H1 β F1 r1 s1 v1 h1 => ?_)
  cases d with
  | bl b => cases v1; exact ⟨b, rfl, h1.now r1 rfl⟩
  | _ => exact h1.elim
theorem pb_cmp {op : CmpOp} {g : Sto → D → D → Option D} (ho : OpG X (compareOp op) g) (ha : PD X W a ra) (hb : PD X W b rb) (hm : behindInMarks op b = false) : PB X W (.Compare a [op] [b] pos) (bVal (rBin g ra rb)) := by
  obtain ⟨r, h1, h2⟩ := ho.ex
  obtain ⟨ta, pa, sa⟩ := ha.ex
  obtain ⟨tb, pb, sb⟩ := hb.ex
  exact ⟨_, pt_cmpR h1 pa pb hm, (sa.bin sb h2).val⟩
end
end DL

set_option Elab.async false
set_option linter.all false
set_option maxRecDepth 100000
set_option maxHeartbeats 4000000
set_option autoImplicit false
/-! Data layer, third part: calls, tests, statements, loops, comprehensions, defs. -/
namespace DL
open PySem PySem.Spec PyProof.Rows L2

section
variable {X : Cx} {W : WX} {a b c e : Expr} {es rest : List Expr} {ra rb rc : RE} {ba bb : RB} {rs : RA} {pos p : Pos} {K : Fg} {mg : Str → Option Value}
/-! ### one value -/
def OkU (X : Cx) (r : V → Hp → VK → Prop) (g : Sto → D → Option D) : Prop := ∀ α F H S (x : V) (d z : D) (Q : VK), Rel X.K X.mg α F H S → DV X.K X.mg F α x d → g S d = some z →
  (∀ v H' β F', Rel X.K X.mg (α ++ β) F' H' S → Stp α F H β F' H' → DV X.K X.mg F' (α ++ β) v z → Q v H') → r x H Q
theorem SndE.un {ta : TE} {g : Sto → D → Option D} {k : V → Hp → VK → Prop} (sa : SndE K mg W ta ra)
    (hk : ∀ α F H S (x : V) (d z : D) (Q : VK), Rel K mg α F H S → DV K mg F α x d → g S d = some z → (∀ v H' β F', Rel K mg (α ++ β) F' H' S → Stp α F H β F' H' → DV K mg F' (α ++ β) v z → Q v H') → k x H Q) :
    SndE K mg W (fun σ H Q => ta σ H fun x H1 => k x H1 Q) (rUn g ra) := by
  intro α F σ H δ S Q hr hs h
  refine sa α F σ H δ S _ hr hs (wp.bind h fun d S1 _ x H1 β F1 r1 s1 v1 h1 => ?_)
  obtain ⟨z, e1, h3⟩ := wp.lift h1
  exact hk (α ++ β) F1 H1 S1 x d z Q r1 v1 e1 fun v H' ε F' r3 s3 v3 => h3 v H' ε F' r3 s3 v3
theorem pd_un {op : UnaryOp} {r : V → Hp → VK → Prop} {g : Sto → D → Option D} (ho : UnR X (unaryOp op) r) (hg : OkU X r g) (ha : PD X W a ra) : PD X W (.UnaryOp op a pos) (rUn g ra) := by
  obtain ⟨ta, pa, sa⟩ := ha.ex
  exact ⟨_, pe_un ho pa, sa.un hg⟩

/-! ### arguments, displays -/
theorem pds_nil : PDs X W [] rNil := ⟨⟨tNil, pa_nil, fun α F σ H δ S Q hr hs h => h.now hr .nil⟩, fun δ S ds S' h => by cases h; rfl⟩
theorem SndE.cons {te : TE} {t : TA} (s1 : SndE K mg W te ra) (s2 : SndA K mg W t rs) : SndA K mg W (tCons te t) (rCons ra rs) := by
  intro α F σ H δ S Q hr hs h
  refine s1 α F σ H δ S _ hr hs (wp.bind h fun d S1 _ x H1 β F1 r1 q1 v1 h1 => ?_)
  refine s2 (α ++ β) F1 σ H1 δ S1 _ r1 (hs.mono q1.sub) (wp.bind h1 fun e S2 _ y H2 γ F2 r2 q2 v2 h2 => ?_)
  exact h2.now r2 (.cons (v1.mono q2.sub) v2)
theorem pds_cons (ha : PD X W e ra) (hr : PDs X W es rs) (hs : starEach (e :: es) X.env = (false, eval e X.env) :: starEach es X.env := by rfl) : PDs X W (e :: es) (rCons ra rs) := by
  obtain ⟨ta, pa, sa⟩ := ha.ex
  obtain ⟨t, pt, st⟩ := hr.ex
  refine ⟨⟨_, pa_cons pa pt hs, sa.cons st⟩, fun δ S ds S' h => ?_⟩
  unfold rCons at h
  cases q : ra δ S with
  | ok d S1 =>
    rw [q] at h
    have h' : (rs δ S1).bind (fun ys S2 => .ok (d :: ys) S2) = .ok ds S' := h
    cases q2 : rs δ S1 with
    | ok ys S2 =>
      rw [q2] at h'
      have h2 : Res.ok (d :: ys) S2 = .ok ds S' := h'
      cases h2
      rw [List.length_cons, List.length_cons, hr.len _ _ _ _ q2]
    | err c fs S2 => rw [q2] at h'; cases h'
    | stuck => rw [q2] at h'; cases h'
  | err c fs S1 => rw [q] at h; cases h
  | stuck => rw [q] at h; cases h
/-- a new tuple, a new list at p -/
theorem Rel.tup {α : List Addr} {F H : Hp} {S : Sto} {xs : List V} {ds : List D} (hr : Rel K mg α F H S) (hv : DVs K mg F α xs ds) {p : Addr} (hp : H p = none) : Rel K mg (α ++ []) (upd F p (.tup xs)) (upd H p (.tup xs)) S ∧ Stp α F H [] (upd F p (.tup xs)) (upd H p (.tup xs)) ∧ DV K mg (upd F p (.tup xs)) (α ++ []) (.ref p) (.tup ds) := by
  obtain ⟨h1, h2⟩ := hr.newF (o := .tup xs) hp
  exact ⟨h1, h2, .tup (SqT.of upd_same) (hv.mono h2.sub)⟩
theorem Rel.lst {α : List Addr} {F H : Hp} {S : Sto} {xs : List V} {ds : List D} (hr : Rel K mg α F H S) (hv : DVs K mg F α xs ds) {p : Addr} (hp : H p = none) : Rel K mg (α ++ []) (upd F p (.lst xs)) (upd H p (.lst xs)) S ∧ Stp α F H [] (upd F p (.lst xs)) (upd H p (.lst xs)) ∧ DV K mg (upd F p (.lst xs)) (α ++ []) (.ref p) (.lst ds) := by
  obtain ⟨h1, h2⟩ := hr.newF (o := .lst xs) hp
  exact ⟨h1, h2, .lst (.inl (Rd.of upd_same)) (hv.mono h2.sub)⟩
theorem pd_tup {x1 : Nat} (h : PDs X W es rs) : PD X W (.Tuple es x1 pos) (rTup rs) := by
  obtain ⟨t, pt, st⟩ := h.ex
  refine ⟨_, pe_tup pt, fun α F σ H δ S Q hr hs h => ?_⟩
  refine st α F σ H δ S _ hr hs (wp.bind h fun ds S1 _ xs H1 β F1 r1 q1 v1 h1 => ?_)
  split at h1
  · rename_i hl
    refine ⟨by rw [v1.length]; exact hl, fun q hq => ?_⟩
    obtain ⟨a1, a2, a3⟩ := r1.tup v1 hq
    exact h1 _ _ _ _ a1 a2 a3
  · exact h1.elim
/-- a thing that is made, at p: it may stand for good, or be the store's -/
def wpF (K : Fg) (mg : Str → Option Value) (α : List Addr) (F H : Hp) (r : Res D) (Q : VK) (W : XK) : Prop := match r with
  | .ok d S' => ∀ p H' β F', Rel K mg (α ++ β) F' H' S' → Stp α F H β F' H' → H p = none → p ∉ α ++ β → F' p = none → Own K mg F' (α ++ β) H' p d → d ≠ .non → Q (.ref p) H'
  | .err c fs S' => ∀ cls dd H' β F', Rel K mg (α ++ β) F' H' S' → Stp α F H β F' H' → ErrAt K mg F' (α ++ β) c fs cls dd H' → W cls dd H'
  | .stuck => False
theorem wpF.step {α β : List Addr} {F H F1 H1 : Hp} {r : Res D} {Q : VK} {W : XK} (st : Stp α F H β F1 H1) (h : wpF K mg α F H r Q W) : wpF K mg (α ++ β) F1 H1 r Q W := by
  cases r with
  | ok d S' =>
    intro p H' γ F' hr hs hp ha hf ho hd
    rw [List.append_assoc] at hr ha ho
    exact h p H' (β ++ γ) F' hr (st.trans hs) (st.live p hp) ha hf ho hd
  | err c fs S' => intro cls dd H' γ F' hr hs hv; rw [List.append_assoc] at hr hv; exact h cls dd H' (β ++ γ) F' hr (st.trans hs) hv
  | stuck => exact h
structure PF (X : Cx) (W : WX) (e : Expr) (r : RE) : Prop where
  ex : ∃ t, PE X e t ∧ ∀ α F σ H δ S (Q : VK), Rel X.K X.mg α F H S → Slots X.K X.mg F α σ δ → wpF X.K X.mg α F H (r δ S) Q (fun c d H' => W c d σ H') → t σ H Q
theorem wpF.bind {A B : Type} {α : List Addr} {F H : Hp} {rel : RelT B A} {r : Res A} {f : A → Sto → Res D} {Q : VK} {Q1 : B → Hp → Prop} {W : XK} (h : wpF K mg α F H (r.bind f) Q W)
    (k : ∀ a S1, r = .ok a S1 → ∀ x H1 β F1, Rel K mg (α ++ β) F1 H1 S1 → Stp α F H β F1 H1 → rel F1 (α ++ β) x a → wpF K mg (α ++ β) F1 H1 (f a S1) Q W → Q1 x H1) : wp K mg α F H rel r Q1 W := by
  cases r with
  | ok a S' => exact fun b H' β F' hr hs hv => k a S' rfl b H' β F' hr hs hv (wpF.step hs h)
  | err c fs S' => exact h
  | stuck => exact h
/-- a new list, laid now -/
theorem wpF.lay {α : List Addr} {F H : Hp} {S : Sto} {Q : VK} {W : XK} {p : Addr} {o : HO} {d : D} (h : wpF K mg α F H (.ok d S) Q W) (hr : Rel K mg α F H S) (hp : H p = none) (ho : Own K mg F α (upd H p o) p d) (hd : d ≠ .non) : Q (.ref p) (upd H p o) := by
  have e : α ++ [] = α := List.append_nil α
  have n := hr.notin hp
  have f := hr.notF hp
  exact h p _ [] F (by rw [e]; exact hr.other n f) (Stp.refl.other hp) hp (by rw [e]; exact n) f (by rw [e]; exact ho) hd
theorem pd_own (h : PF X W e ra) : PD X W e (rOwn ra) := by
  obtain ⟨t, pt, st⟩ := h.ex
  refine ⟨t, pt, fun α F σ H δ S Q hr hs h => st α F σ H δ S Q hr hs ?_⟩
  unfold rOwn at h
  cases q : ra δ S with
  | ok d S' =>
    rw [q] at h
    intro p H' β F' r1 s1 hp ha hf ho hd
    have h2 : wp X.K X.mg α F H (relD X.K X.mg) (.ok (.ptr S'.length) (S' ++ [d])) Q _ := h
    refine h2 (.ref p) H' (β ++ [p]) F' ?_ ⟨fun b hb => ?_, s1.sub, s1.frame, s1.live, s1.fnew⟩ ?_
    · rw [← List.append_assoc]
      exact r1.adopt ha hf ho hd
    · rcases List.mem_append.mp hb with z | z
      · exact s1.new b z
      · have : b = p := by simpa using z
        rw [this]; exact hp
    · rw [← List.append_assoc]
      refine .ptr ?_
      rw [List.getElem?_append_right (by rw [r1.len]; exact Nat.le_refl _), r1.len, Nat.sub_self] <;> rfl
  | err c fs S' => rw [q] at h; exact h
  | stuck => rw [q] at h; exact h
/-- a list that stands for good -/
def rKeep (a : RE) : RE := fun δ S => (a δ S).bind fun d S1 => match d with
  | .lst ds => .ok (.lst ds) S1
  | _ => .stuck
theorem pd_keep (h : PF X W e ra) : PD X W e (rKeep ra) := by
  obtain ⟨t, pt, st⟩ := h.ex
  refine ⟨t, pt, fun α F σ H δ S Q hr hs h => st α F σ H δ S Q hr hs ?_⟩
  unfold rKeep at h
  cases q : ra δ S with
  | ok d S' =>
    rw [q] at h
    intro p H' β F' r1 s1 hp ha hf ho hd
    cases d with
    | lst ds =>
      have h2 : wp X.K X.mg α F H (relD X.K X.mg) (.ok (.lst ds) S') Q _ := h
      obtain ⟨xs, o1, o2⟩ := ho
      obtain ⟨a1, a2⟩ := r1.freeze (o := .lst xs) ha hf o1
      exact h2 (.ref p) H' β (upd F' p (.lst xs)) a1 ⟨s1.new, s1.sub.trans a2, s1.frame, s1.live, fun a g1 g2 g3 => by
        have z : a ≠ p := fun z => g3 (z ▸ hp)
        rw [upd_ne z]; exact s1.fnew a g1 g2 g3⟩ (.lst (.inl (Rd.of upd_same)) (by have := o2.mono (β := []) a2; rw [List.append_nil] at this; exact this))
    | _ => exact (show False from h).elim
  | err c fs S' => rw [q] at h; exact h
  | stuck => rw [q] at h; exact h
theorem pf_lst (h : PDs X W es rs) : PF X W (.List es pos) (rLst rs) := by
  obtain ⟨t, pt, st⟩ := h.ex
  refine ⟨_, pe_lst pt, fun α F σ H δ S Q hr hs h => ?_⟩
  refine st α F σ H δ S _ hr hs (wpF.bind h fun ds S1 _ xs H1 β F1 r1 q1 v1 h1 => ?_)
  split at h1
  · rename_i hl
    refine ⟨by rw [v1.length]; exact hl, fun p hp => h1.lay r1 hp ⟨xs, upd_same, v1⟩ (by intro z; cases z)⟩
  · exact h1.elim

/-! ### calls -/
def spD (K : Fg) (mg : Str → Option Value) (n : Nat) (m : Mir) : Sp := fun vs H Q E => vs.length = n ∧ ∃ α F S ds, Rel K mg α F H S ∧ DVs K mg F α vs ds ∧ wp K mg α F H (relD K mg) (m ds S) Q E
/-- a def that keeps its promise where no repr is under way -/
structure FnG (P : Program) (w : World) (K : Fg) (mg : Str → Option Value) (base : Heap) (k : Nat) (f : Addr) (fd : FuncData) (ps : List Str) (sp : Sp) : Prop where
  len : ∀ vs H Q E, sp vs H Q E → vs.length = ps.length
  run : ∀ (A : Around) (outer : List Env) (s : Shared) (H : Hp) (args : Args) (us : List Value) (vs : List V) (Q : VK) (E : XK), Room k A → A.guards = some [] → Env0 P w K mg base A outer s H → BindsTo s fd args (ps.zip us) → Vals vs us → sp vs H Q E → codeAny (model P w) A (.call (.ref f) args) (CR (L2.CX P w) outer P w H s Q E) s
theorem FnG.call {k : Nat} {f : Addr} {fd : FuncData} {ps : List Str} {sp : Sp} {pins : List (Addr × Obj)} {σ : L2.St} {H : Hp} {s : Shared} {Q : VK} {us : List Value} {vs : List V} (F : FnG X.prog X.w X.K X.mg X.base k f fd ps sp) (hr : Room k X.A) (hG : X.A.guards = some []) (hb : Binds X.K fd ps []) (tk : Takes X W)
    (I : Inv X pins σ H s) (r : Vals vs us) (h : sp vs H Q (WE W σ)) : wpAny (model X.prog X.w) X.A (call (.ref f) us) (EP X pins σ Q) X.xe s := by
  have hl := r.length.symm.trans (F.len vs H Q _ h)
  have b : BindsTo s fd ⟨us, []⟩ (ps.zip us) := by simpa only [List.append_nil] using hb s us I.kIn (by simpa only [List.append_nil] using hl)
  refine wpAny_call (codeAny_mono (F.run _ _ s H _ us vs Q _ hr hG I.env0 b r h) ?_)
  intro res s' q
  cases res with
  | error e => exact passAt tk σ pins H s e s' I q
  | ok fl => cases fl with
    | ret u => exact I.after q
    | next => exact q.elim
    | brk => exact q.elim
    | cont => exact q.elim
theorem pd_call {x : Str} {m : Mir} {n k : Nat} {f : Addr} {fd : FuncData} {ps : List Str} (F : FnG X.prog X.w X.K X.mg X.base k f fd ps (spD X.K X.mg n m)) (hr : Room k X.A) (hG : X.A.guards = some []) (hm : X.mg x = some (.ref f)) (hk : PySem.W.keepIn X.K (.ref f) = true)
    (hb : Binds X.K fd ps []) (tk : Takes X W) (ha : PDs X W (e :: es) rs) (hl : (e :: es).length = n := by rfl) (hg : Gl X x := by rfl) (hdb : (x == ("__debug__" : Str)) = false := by decide)
    (he : starEach (e :: es) X.env = (false, eval e X.env) :: starEach es X.env := by rfl) (hpl : (backTo pos (starEach es X.env)).any (·.1) = false := by rfl) :
    PD X W (.Call (.Name x p) (e :: es) [] pos) (rCall m rs) := by
  obtain ⟨t, pt, st⟩ := ha.ex
  refine ⟨tCallS (spD X.K X.mg n m) (WE W) t, ⟨fun pins s σ H Q I h => wpAny_Call_Name_kw (ld_glob I hg hm ?_ hdb)⟩, fun α F σ H δ S Q hr hs h => ?_⟩
  · exact PySem.W.callWith_K (h₀ := X.base) I.ok.mod.kin hk (thn (pt.run pos pins s σ H _ I h) fun us s1 ⟨vs, H1, I1, r, q⟩ => ⟨I1.kIn, F.call hr hG hb tk I1 r q⟩) he hpl
  · refine st α F σ H δ S _ hr hs (wp.bind h fun ds S1 e1 xs H1 β F1 r1 q1 v1 h1 => ?_)
    exact ⟨by rw [v1.length, ha.len _ _ _ _ e1]; exact hl, α ++ β, F1, S1, ds, r1, v1, h1⟩
end
end DL

set_option Elab.async false
set_option linter.all false
set_option maxRecDepth 100000
set_option maxHeartbeats 4000000
set_option autoImplicit false
/-! Data layer, fourth part: tests, targets, statements, loops, comprehensions, defs. -/
namespace DL
open PySem PySem.Spec PyProof.Rows L2

section
variable {X : Cx} {W : WX} {a b c e : Expr} {es rest : List Expr} {ra rb rc : RE} {ba bb : RB} {rs : RA} {pos p : Pos} {K : Fg} {mg : Str → Option Value} {α β : List Addr} {F H : Hp} {S : Sto}
/-! ### built-in things by their values -/
def OkC (X : Cx) (r : List V → Hp → VK → Prop) (g : Sto → List D → Option D) : Prop := ∀ α F H S (xs : List V) (ds : List D) (z : D) (Q : VK), Rel X.K X.mg α F H S → DVs X.K X.mg F α xs ds → g S ds = some z →
  (∀ v H' β F', Rel X.K X.mg (α ++ β) F' H' S → Stp α F H β F' H' → DV X.K X.mg F' (α ++ β) v z → Q v H') → r xs H Q
theorem SndA.app {t : TA} {g : Sto → List D → Option D} {k : List V → Hp → VK → Prop} (sa : SndA K mg W t rs)
    (hk : ∀ α F H S (xs : List V) (ds : List D) (z : D) (Q : VK), Rel K mg α F H S → DVs K mg F α xs ds → g S ds = some z → (∀ v H' β F', Rel K mg (α ++ β) F' H' S → Stp α F H β F' H' → DV K mg F' (α ++ β) v z → Q v H') → k xs H Q) :
    SndE K mg W (fun σ H Q => t σ H fun xs H1 => k xs H1 Q) (rAs g rs) := by
  intro α F σ H δ S Q hr hs h
  refine sa α F σ H δ S _ hr hs (wp.bind h fun d S1 _ x H1 β F1 r1 s1 v1 h1 => ?_)
  obtain ⟨z, e1, h3⟩ := wp.lift h1
  exact hk (α ++ β) F1 H1 S1 x d z Q r1 v1 e1 fun v H' ε F' r3 s3 v3 => h3 v H' ε F' r3 s3 v3
/-- a built-in by its name, a class by its name -/
structure BiG (X : Cx) (f : Value) (g : Sto → List D → Option D) : Prop where
  ex : ∃ r, CallR X f r ∧ OkC X r g
theorem pd_callB {x : Str} {id : String} {g : Sto → List D → Option D} (hc : BiG X (.builtin id) g) (hm : X.mg x = none) (ha : PDs X W (e :: es) rs) (hg : Gl X x := by rfl) (hv : bootBuiltins x = some (.builtin id) := by decide +kernel) (hn : x ≠ "__name__" := by decide) (hdb : (x == ("__debug__" : Str)) = false := by decide)
    (he : starEach (e :: es) X.env = (false, eval e X.env) :: starEach es X.env := by rfl) (hpl : (backTo pos (starEach es X.env)).any (·.1) = false := by rfl) : PD X W (.Call (.Name x p) (e :: es) [] pos) (rAs g rs) := by
  obtain ⟨r, h1, h2⟩ := hc.ex
  obtain ⟨t, pt, st⟩ := ha.ex
  exact ⟨_, pe_callB h1 hg hm hv pt hn hdb he hpl, st.app h2⟩
theorem pd_callT {x : Str} {T : String} {g : Sto → List D → Option D} (hc : BiG X (.type T) g) (hm : X.mg x = none) (ha : PDs X W (e :: es) rs) (hg : Gl X x := by rfl) (hv : bootBuiltins x = some (.type T) := by decide +kernel) (hn : x ≠ "__name__" := by decide) (hdb : (x == ("__debug__" : Str)) = false := by decide)
    (he : starEach (e :: es) X.env = (false, eval e X.env) :: starEach es X.env := by rfl) (hpl : (backTo pos (starEach es X.env)).any (·.1) = false := by rfl) : PD X W (.Call (.Name x p) (e :: es) [] pos) (rAs g rs) := by
  obtain ⟨r, h1, h2⟩ := hc.ex
  obtain ⟨t, pt, st⟩ := ha.ex
  exact ⟨_, pe_callTy h1 hg hm hv pt hn hdb he hpl, st.app h2⟩

/-! ### what is seen through the store -/
/-- an owned thing, by what it holds -/
theorem Rel.owned (hr : Rel K mg α F H S) {k : Nat} {a : Addr} (h : α[k]? = some a) : S[k]? = some (S.getD k .non) ∧ Own K mg F α H a (S.getD k .non) ∧ (S.getD k .non ≠ .non → F a = none) := by
  have hk : k < S.length := by rw [← hr.len]; exact (List.getElem?_eq_some_iff.mp h).1
  have e2 : S[k]? = some (S.getD k .non) := by rw [List.getD_eq_getElem?_getD]; simp [hk]
  exact ⟨e2, hr.own k a _ h e2⟩
inductive Seen (K : Fg) (mg : Str → Option Value) (F : Hp) (α : List Addr) (H : Hp) : V → D → Prop
  | at {v : V} {d : D} : DV K mg F α v d → (∀ k, d ≠ .ptr k) → Seen K mg F α H v d
  | dead {v : V} {k : Nat} : Seen K mg F α H v (.ptr k)
  | lst {a : Addr} {xs : List V} {ds : List D} : H a = some (.lst xs) → DVs K mg F α xs ds → Seen K mg F α H (.ref a) (.lst ds)
  | dct {a : Addr} {ws : List (Key × V)} {kvs : List (D × D)} : H a = some (.dK ws) → DKs (ws.map (·.1)) (kvs.map (·.1)) → DVs K mg F α (ws.map (·.2)) (kvs.map (·.2)) → Seen K mg F α H (.ref a) (.dct kvs)
theorem Rel.see (hr : Rel K mg α F H S) {v : V} {d : D} (h : DV K mg F α v d) : Seen K mg F α H v (deref S d) := by
  cases d with
  | ptr k =>
    cases h with
    | ptr h =>
      obtain ⟨_, o, _⟩ := hr.owned h
      unfold deref
      dsimp only
      generalize hd : S.getD k .non = d at o
      cases d with
      | lst ds => obtain ⟨xs, h1, h2⟩ := o; exact .lst h1 h2
      | dct kvs => obtain ⟨ws, h1, h2, h3⟩ := o; exact .dct h1 h2 h3
      | non => exact .dead
      | _ => exact o.elim
  | _ => exact .at h (fun k e => by cases e)
theorem Rel.viewL (hr : Rel K mg α F H S) {v : V} {d : D} {ds : List D} (h : DV K mg F α v d) (e : deref S d = .lst ds) : ∃ a xs, v = .ref a ∧ SqL K H a xs ∧ DVs K mg F α xs ds := by
  have s := hr.see h
  rw [e] at s
  cases s with
  | «at» h _ => cases h with | lst q t => exact ⟨_, _, rfl, hr.sub.sqL q, t⟩
  | lst q t => exact ⟨_, _, rfl, .inl (Rd.of q), t⟩
theorem Rel.viewT (hr : Rel K mg α F H S) {v : V} {d : D} {ds : List D} (h : DV K mg F α v d) (e : deref S d = .tup ds) : ∃ a xs, v = .ref a ∧ SqT K H a xs ∧ DVs K mg F α xs ds := by
  have s := hr.see h
  rw [e] at s
  cases s with
  | «at» h _ => cases h with | tup q t => exact ⟨_, _, rfl, hr.sub.sqT q, t⟩
theorem Rel.viewI (hr : Rel K mg α F H S) {v : V} {d : D} {i : Int} (h : DV K mg F α v d) (e : deref S d = .int i) : v = .int i := by
  have s := hr.see h
  rw [e] at s
  cases s with
  | «at» h _ => cases h; rfl
theorem Rel.viewS (hr : Rel K mg α F H S) {v : V} {d : D} {i : Str} (h : DV K mg F α v d) (e : deref S d = .str i) : v = .str i := by
  have s := hr.see h
  rw [e] at s
  cases s with
  | «at» h _ => cases h; rfl
theorem DVs.isEmpty {xs : List V} {ds : List D} (h : DVs K mg F α xs ds) : ds.isEmpty = xs.isEmpty := by cases h <;> rfl
theorem Rel.truV (hr : Rel K mg α F H S) {v : V} {d : D} {k : Bool} (h : DV K mg F α v d) (e : truth S d = some k) : TruV K v H k := by
  have s := hr.see h
  unfold truth at e
  generalize deref S d = dd at e s
  cases s with
  | «at» h hp =>
    cases h with
    | non => cases e; rfl
    | bl b => cases e; rfl
    | int i => cases e; rfl
    | str x =>
      dsimp only at e
      split at e
      · rename_i hl; cases e; exact ⟨hl, rfl⟩
      · cases e
    | tup q t => cases e; exact .inr (.inl ⟨_, hr.sub.sqT q, by rw [t.isEmpty]⟩)
    | lst q t => cases e; exact .inl ⟨_, hr.sub.sqL q, by rw [t.isEmpty]⟩
    | dct _ _ _ _ _ => cases e
    | ptr _ => exact absurd rfl (hp _)
    | fn _ => cases e
    | ty _ => cases e
  | dead => cases e
  | lst q t => cases e; exact .inl ⟨_, SqL.of q, by rw [t.isEmpty]⟩
  | dct h k t => cases e

/-! ### tests -/
theorem pb_tru (ha : PD X W a ra) (he : ∀ whole, isTrue a X.env whole = (do let v ← whole; standAt a.pos; holding [v] (truthy v)) := by intro _; rfl) : PB X W a (bTru ra) := by
  obtain ⟨ta, pa, sa⟩ := ha.ex
  refine ⟨_, pt_truth pa he, fun α F σ H δ S Q hr hs h => ?_⟩
  refine sa α F σ H δ S _ hr hs (wp.bind h fun d S1 _ x H1 β F1 r1 s1 v1 h1 => ?_)
  obtain ⟨k, e1, h2⟩ := wp.lift h1
  exact ⟨k, r1.truV v1 e1, h2.now r1 rfl⟩
theorem SndB.and {t u : TT} (s1 : SndB K mg W t ba) (s2 : SndB K mg W u bb) : SndB K mg W (tAnd t u) (bAnd ba bb) := by
  intro α F σ H δ S Q hr hs h
  refine s1 α F σ H δ S _ hr hs (wp.bind h fun d S1 _ x H1 β F1 r1 q1 v1 h1 => ?_)
  have e : x = d := v1
  subst e
  cases x with
  | true => exact s2 (α ++ β) F1 σ H1 δ S1 Q r1 (hs.mono q1.sub) h1
  | false => exact h1.now r1 rfl
theorem SndB.or {t u : TT} (s1 : SndB K mg W t ba) (s2 : SndB K mg W u bb) : SndB K mg W (tOr t u) (bOr ba bb) := by
  intro α F σ H δ S Q hr hs h
  refine s1 α F σ H δ S _ hr hs (wp.bind h fun d S1 _ x H1 β F1 r1 q1 v1 h1 => ?_)
  have e : x = d := v1
  subst e
  cases x with
  | false => exact s2 (α ++ β) F1 σ H1 δ S1 Q r1 (hs.mono q1.sub) h1
  | true => exact h1.now r1 rfl
theorem pw_and1D (ha : PB X W a ba) : PBw X W (.BoolOp .And [a] pos) ba := let ⟨t, h, s⟩ := ha.ex; ⟨t, pw_and1 h, s⟩
theorem pw_or1D (ha : PB X W a ba) : PBw X W (.BoolOp .Or [a] pos) ba := let ⟨t, h, s⟩ := ha.ex; ⟨t, pw_or1 h, s⟩
theorem pw_andD (ha : PB X W a ba) (hb : PBw X W (.BoolOp .And (b :: rest) pos) bb) : PBw X W (.BoolOp .And (a :: b :: rest) pos) (bAnd ba bb) := by
  obtain ⟨t, h1, s1⟩ := ha.ex
  obtain ⟨u, h2, s2⟩ := hb.ex
  exact ⟨_, pw_and h1 h2, s1.and s2⟩
theorem pw_orD (ha : PB X W a ba) (hb : PBw X W (.BoolOp .Or (b :: rest) pos) bb) : PBw X W (.BoolOp .Or (a :: b :: rest) pos) (bOr ba bb) := by
  obtain ⟨t, h1, s1⟩ := ha.ex
  obtain ⟨u, h2, s2⟩ := hb.ex
  exact ⟨_, pw_or h1 h2, s1.or s2⟩
theorem pb_w (h : PBw X W a ba) : PB X W a ba := let ⟨t, p, s⟩ := h.ex; ⟨t, p.pt, s⟩
theorem pb_not (ha : PB X W a ba) : PB X W (.UnaryOp .Not a pos) (bNot ba) := by
  obtain ⟨t, h, s⟩ := ha.ex
  refine ⟨_, pt_not h, fun α F σ H δ S Q hr hs h => ?_⟩
  refine s α F σ H δ S _ hr hs (wp.bind h fun d S1 _ x H1 β F1 r1 q1 v1 h1 => ?_)
  have e : x = d := v1
  subst e
  exact h1.now r1 rfl
/-- a < b <= c -/
def rChain (g g' : Sto → D → D → Option D) (ra rb rc : RE) : RE := fun δ S => (ra δ S).bind fun x S1 => (rb δ S1).bind fun y S2 => (Res.lift (g S2 x y) S2).bind fun z S3 => match z with
  | .bl true => (rc δ S3).bind fun u S4 => .lift (g' S4 y u) S4
  | .bl false => .ok (.bl false) S3
  | _ => .stuck
theorem pd_chain2 {op op' : CmpOp} {g g' : Sto → D → D → Option D} (ho : OpG X (compareOp op) g) (ho' : OpG X (compareOp op') g') (ha : PD X W a ra) (hb : PD X W b rb) (hc : PD X W c rc) (hm : lastMarks [op, op'] [b, c] = false := by with_unfolding_all rfl) :
    PD X W (.Compare a [op, op'] [b, c] pos) (rChain g g' ra rb rc) ∧ PB X W (.Compare a [op, op'] [b, c] pos) (bVal (rChain g g' ra rb rc)) := by
  obtain ⟨r, h1, h2⟩ := ho.ex
  obtain ⟨r', h1', h2'⟩ := ho'.ex
  obtain ⟨ta, pa, sa⟩ := ha.ex
  obtain ⟨tb, pb, sb⟩ := hb.ex
  obtain ⟨tc, pc, sc⟩ := hc.ex
  suffices q : SndE X.K X.mg W (tChain r r' ta tb tc) (rChain g g' ra rb rc) from ⟨⟨_, pe_chain h1 h1' pa pb pc hm, q⟩, ⟨_, pt_chain h1 h1' pa pb pc hm, q.val⟩⟩
  intro α F σ H δ S Q hr hs h
  refine sa α F σ H δ S _ hr hs (wp.bind h fun d S1 _ x H1 β F1 r1 s1 v1 q1 => ?_)
  refine sb (α ++ β) F1 σ H1 δ S1 _ r1 (hs.mono s1.sub) (wp.bind q1 fun e S2 _ y H2 γ F2 r2 s2 v2 q2 => ?_)
  cases eg : g S2 d e with
  | none => rw [eg] at q2; exact q2.elim
  | some z =>
    rw [eg] at q2
    refine h2 (α ++ β ++ γ) F2 H2 S2 x y d e z _ r2 (v1.mono s2.sub) v2 eg fun v H3 ε F3 r3 s3 v3 => ?_
    have q3 := wp.step s3 q2
    cases z with
    | bl k =>
      cases v3
      refine ⟨k, rfl, ?_⟩
      cases k with
      | false => exact q3.now r3 (.bl false)
      | true =>
        refine sc (α ++ β ++ γ ++ ε) F3 σ H3 δ S2 _ r3 (((hs.mono s1.sub).mono s2.sub).mono s3.sub) (wp.bind q3 fun u S4 _ w H4 ζ F4 r4 s4 v4 q4 => ?_)
        obtain ⟨z', e', q5⟩ := wp.lift q4
        exact h2' _ F4 H4 S4 y w e u z' Q r4 ((v2.mono s3.sub).mono s4.sub) v4 e' fun v H' ε F' r3 s3 v3 => q5 v H' ε F' r3 s3 v3
    | _ => exact q3.elim
/-! ### and, or, not, if as values -/
theorem pd_if (hc : PB X W c ba) (ha : PD X W a ra) (hb : PD X W b rb) : PD X W (.IfExp c a b pos) (rIf ba ra rb) := by
  obtain ⟨tc, pc, sc⟩ := hc.ex
  obtain ⟨ta, pa, sa⟩ := ha.ex
  obtain ⟨tb, pb, sb⟩ := hb.ex
  refine ⟨_, pe_ifExp pc pa pb, fun α F σ H δ S Q hr hs h => ?_⟩
  refine sc α F σ H δ S _ hr hs (wp.bind h fun d S1 _ x H1 β F1 r1 q1 v1 h1 => ?_)
  have e : x = d := v1
  subst e
  cases x with
  | true => exact sa (α ++ β) F1 σ H1 δ S1 Q r1 (hs.mono q1.sub) h1
  | false => exact sb (α ++ β) F1 σ H1 δ S1 Q r1 (hs.mono q1.sub) h1
theorem pd_one {op : BoolOp} (ha : PD X W a ra) : PD X W (.BoolOp op [a] pos) ra := let ⟨t, h, s⟩ := ha.ex; ⟨t, pe_one h, s⟩
theorem pd_or (ha : PD X W a ra) (hb : PD X W (.BoolOp .Or (b :: rest) pos) rb) : PD X W (.BoolOp .Or (a :: b :: rest) pos) (rOr ra rb) := by
  obtain ⟨ta, pa, sa⟩ := ha.ex
  obtain ⟨tb, pb, sb⟩ := hb.ex
  refine ⟨_, pe_orT pa pb, fun α F σ H δ S Q hr hs h => ?_⟩
  refine sa α F σ H δ S _ hr hs (wp.bind h fun d S1 _ x H1 β F1 r1 q1 v1 h1 => ?_)
  cases e : truth S1 d with
  | none => rw [e] at h1; exact h1.elim
  | some k =>
    rw [e] at h1
    refine ⟨k, r1.truV v1 e, ?_⟩
    cases k with
    | true => exact h1.now r1 v1
    | false => exact sb (α ++ β) F1 σ H1 δ S1 Q r1 (hs.mono q1.sub) h1
theorem pd_and (ha : PD X W a ra) (hb : PD X W (.BoolOp .And (b :: rest) pos) rb) : PD X W (.BoolOp .And (a :: b :: rest) pos) (rAnd ra rb) := by
  obtain ⟨ta, pa, sa⟩ := ha.ex
  obtain ⟨tb, pb, sb⟩ := hb.ex
  refine ⟨_, pe_andT pa pb, fun α F σ H δ S Q hr hs h => ?_⟩
  refine sa α F σ H δ S _ hr hs (wp.bind h fun d S1 _ x H1 β F1 r1 q1 v1 h1 => ?_)
  cases e : truth S1 d with
  | none => rw [e] at h1; exact h1.elim
  | some k =>
    rw [e] at h1
    refine ⟨k, r1.truV v1 e, ?_⟩
    cases k with
    | false => exact h1.now r1 v1
    | true => exact sb (α ++ β) F1 σ H1 δ S1 Q r1 (hs.mono q1.sub) h1
theorem pd_not (ha : PD X W a ra) : PD X W (.UnaryOp .Not a pos) (rNot ra) := by
  obtain ⟨ta, pa, sa⟩ := ha.ex
  refine ⟨_, pe_notT pa, fun α F σ H δ S Q hr hs h => ?_⟩
  refine sa α F σ H δ S _ hr hs (wp.bind h fun d S1 _ x H1 β F1 r1 q1 v1 h1 => ?_)
  cases e : truth S1 d with
  | none => rw [e] at h1; exact h1.elim
  | some k =>
    rw [e] at h1
    exact ⟨k, r1.truV v1 e, h1.now r1 (.bl _)⟩
end
end DL

set_option Elab.async false
set_option linter.all false
set_option maxRecDepth 100000
set_option maxHeartbeats 4000000
set_option autoImplicit false
/-! Data layer, fifth part: targets, statements, loops, comprehensions, defs. -/
namespace DL
open PySem PySem.Spec PyProof.Rows L2

def relS (K : Fg) (mg : Str → Option Value) : RelT L2.St Sl := fun F α σ δ => Slots K mg F α σ δ
def SndG (K : Fg) (mg : Str → Option Value) (W : WX) (t : TG) (g : RG) : Prop := ∀ α F σ H δ S v d (Q : L2.St → Hp → Prop), Rel K mg α F H S → Slots K mg F α σ δ → DV K mg F α v d → wp K mg α F H (relS K mg) (g d δ S) Q (fun c d H' => W c d σ H') → t v σ H Q
def SndGs (K : Fg) (mg : Str → Option Value) (W : WX) (t : TGs) (g : List D → Sl → Sto → Res Sl) : Prop := ∀ α F σ H δ S v d (Q : L2.St → Hp → Prop), Rel K mg α F H S → Slots K mg F α σ δ → DVs K mg F α v d → wp K mg α F H (relS K mg) (g d δ S) Q (fun c d H' => W c d σ H') → t v σ H Q
structure PGd (X : Cx) (W : WX) (tg : Expr) (g : RG) : Prop where
  ex : ∃ t, PG X tg t ∧ SndG X.K X.mg W t g
/-- .. that raises nothing -/
structure PGn (X : Cx) (W : WX) (tg : Expr) (g : RG) : Prop where
  pg : PGd X W tg g
  ne : ∀ d δ S c fs S', g d δ S ≠ .err c fs S'
structure PGds (X : Cx) (W : WX) (tg : List Expr) (g : List D → Sl → Sto → Res Sl) : Prop where
  ex : ∃ t, PGs X tg t ∧ SndGs X.K X.mg W t g
  ne : ∀ d δ S c fs S', g d δ S ≠ .err c fs S'
  len : ∀ ds δ S δ' S', g ds δ S = .ok δ' S' → ds.length = tg.length
def wpS (K : Fg) (mg : Str → Option Value) (α : List Addr) (F H : Hp) (o : Out) (E : Ends) (W : WX) : Prop := match o with
  | .nx δ S => ∀ σ' H' β F', Rel K mg (α ++ β) F' H' S → Stp α F H β F' H' → Slots K mg F' (α ++ β) σ' δ → E.nx σ' H'
  | .rt d S => ∀ v H' β F', Rel K mg (α ++ β) F' H' S → Stp α F H β F' H' → DV K mg F' (α ++ β) v d → E.rt v H'
  | .bk δ S => ∀ σ' H' β F', Rel K mg (α ++ β) F' H' S → Stp α F H β F' H' → Slots K mg F' (α ++ β) σ' δ → E.bk σ' H'
  | .ct δ S => ∀ σ' H' β F', Rel K mg (α ++ β) F' H' S → Stp α F H β F' H' → Slots K mg F' (α ++ β) σ' δ → E.ct σ' H'
  | .err c fs δ S => ∀ cls dd σ' H' β F', Rel K mg (α ++ β) F' H' S → Stp α F H β F' H' → Slots K mg F' (α ++ β) σ' δ → ErrAt K mg F' (α ++ β) c fs cls dd H' → W cls dd σ' H'
  | .stuck => False
def SndS (K : Fg) (mg : Str → Option Value) (W : WX) (t : TS) (r : RS) : Prop := ∀ α F σ H δ S (E : Ends), Rel K mg α F H S → Slots K mg F α σ δ → wpS K mg α F H (r δ S) E W → t E σ H
structure PSd (X : Cx) (W : WX) (st : Stmt) (r : RS) : Prop where
  ex : ∃ t, PS X st t ∧ SndS X.K X.mg W t r
structure PSds (X : Cx) (W : WX) (st : List Stmt) (r : RS) : Prop where
  ex : ∃ t, PSs X st t ∧ SndS X.K X.mg W t r

section
variable {X : Cx} {W : WX} {a b c e : Expr} {es rest : List Expr} {ra rb rc : RE} {ba bb : RB} {rs : RA} {pos p : Pos} {K : Fg} {mg : Str → Option Value} {α β : List Addr} {F F1 H H1 : Hp} {S : Sto}
theorem wpS.step {o : Out} {E : Ends} (st : Stp α F H β F1 H1) (h : wpS K mg α F H o E W) : wpS K mg (α ++ β) F1 H1 o E W := by
  cases o with
  | nx δ S => intro σ' H' γ F' hr hs hv; rw [List.append_assoc] at hr hv; exact h σ' H' (β ++ γ) F' hr (st.trans hs) hv
  | rt d S => intro σ' H' γ F' hr hs hv; rw [List.append_assoc] at hr hv; exact h σ' H' (β ++ γ) F' hr (st.trans hs) hv
  | bk δ S => intro σ' H' γ F' hr hs hv; rw [List.append_assoc] at hr hv; exact h σ' H' (β ++ γ) F' hr (st.trans hs) hv
  | ct δ S => intro σ' H' γ F' hr hs hv; rw [List.append_assoc] at hr hv; exact h σ' H' (β ++ γ) F' hr (st.trans hs) hv
  | err c fs δ S => intro cls dd σ' H' γ F' hr hs hv q; rw [List.append_assoc] at hr hv q; exact h cls dd σ' H' (β ++ γ) F' hr (st.trans hs) hv q
  | stuck => exact h
theorem wpS.out {A B : Type} {rel : RelT B A} {r : Res A} {δ : Sl} {f : A → Sto → Out} {E : Ends} {Q : B → Hp → Prop} {σ : L2.St} (h : wpS K mg α F H (r.out δ f) E W) (hs : Slots K mg F α σ δ)
    (k : ∀ a S1, r = .ok a S1 → ∀ x H1 β F1, Rel K mg (α ++ β) F1 H1 S1 → Stp α F H β F1 H1 → rel F1 (α ++ β) x a → wpS K mg (α ++ β) F1 H1 (f a S1) E W → Q x H1) : wp K mg α F H rel r Q (fun c d H' => W c d σ H') := by
  cases r with
  | ok a S' => exact fun b H' β F' hr st hv => k a S' rfl b H' β F' hr st hv (wpS.step st h)
  | err c fs S' => exact fun cls dd H' β F' hr st q => h cls dd σ H' β F' hr st (hs.mono st.sub) q
  | stuck => exact h
theorem wpS.nx {δ : Sl} {E : Ends} {σ : L2.St} (h : wpS K mg α F H (.nx δ S) E W) (hr : Rel K mg α F H S) (hs : Slots K mg F α σ δ) : E.nx σ H := by
  have e : α ++ [] = α := List.append_nil α
  exact h σ H [] F (by rw [e]; exact hr) Stp.refl (by rw [e]; exact hs)
theorem wpS.rt {d : D} {E : Ends} {v : V} (h : wpS K mg α F H (.rt d S) E W) (hr : Rel K mg α F H S) (hv : DV K mg F α v d) : E.rt v H := by
  have e : α ++ [] = α := List.append_nil α
  exact h v H [] F (by rw [e]; exact hr) Stp.refl (by rw [e]; exact hv)
theorem wpS.bk {δ : Sl} {E : Ends} {σ : L2.St} (h : wpS K mg α F H (.bk δ S) E W) (hr : Rel K mg α F H S) (hs : Slots K mg F α σ δ) : E.bk σ H := by
  have e : α ++ [] = α := List.append_nil α
  exact h σ H [] F (by rw [e]; exact hr) Stp.refl (by rw [e]; exact hs)
theorem wpS.ct {δ : Sl} {E : Ends} {σ : L2.St} (h : wpS K mg α F H (.ct δ S) E W) (hr : Rel K mg α F H S) (hs : Slots K mg F α σ δ) : E.ct σ H := by
  have e : α ++ [] = α := List.append_nil α
  exact h σ H [] F (by rw [e]; exact hr) Stp.refl (by rw [e]; exact hs)

/-! ### targets -/
theorem pgd_name (i : Nat) {x : Str} (hN : X.N.Nodup) (hi : X.N[i]? = some x := by rfl) (hx : Loc X.env.scope x := by first | exact Or.inl rfl | exact Or.inr rfl) (hf : X.fn x = true ∨ X.env.scope.names.lookup x = some .local := by first | exact .inl rfl | exact .inr rfl | assumption) : PGn X W (.Name x pos) (gName i) := by
  refine ⟨⟨_, pg_name hN hi hx hf, fun α F σ H δ S v d Q hr hs hv h => ?_⟩, fun d δ S c fs S' h => by unfold gName at h; split at h <;> cases h⟩
  unfold gName at h
  split at h
  · exact h.now hr (hs.set hv)
  · exact h.elim
theorem pgds_nil : PGds X W [] gNil := by
  refine ⟨⟨_, pgs_nil, fun α F σ H δ S v d Q hr hs hv h => ?_⟩, fun d δ S c fs S' h => ?_, fun ds δ S δ' S' h => ?_⟩
  · cases hv with
    | nil => exact ⟨rfl, h.now hr hs⟩
    | cons _ _ => exact h.elim
  · cases d <;> cases h
  · cases ds with
    | nil => rfl
    | cons _ _ => cases h
theorem pgds_cons {g : RG} {u : List D → Sl → Sto → Res Sl} (h1 : PGn X W e g) (h2 : PGds X W es u) (hsy : (assignEach (e :: es) X.env).map (·.2) = assign e X.env :: (assignEach es X.env).map (·.2) := by rfl) : PGds X W (e :: es) (gCons g u) := by
  obtain ⟨t, p1, s1⟩ := h1.pg.ex
  obtain ⟨t', p2, s2⟩ := h2.ex
  refine ⟨⟨_, pgs_cons p1 p2 hsy, fun α F σ H δ S v d Q hr hs hv h => ?_⟩, fun d δ S c fs S' h => ?_, fun ds δ S δ' S' h => ?_⟩
  · cases hv with
    | nil => exact h.elim
    | cons hv ht =>
      rename_i v d vs ds
      refine ⟨v, vs, rfl, s1 α F σ H δ S v d _ hr hs hv (wp.bind h fun δ1 S1 _ σ1 H1 β F1 r1 q1 hs1 h1 => ?_)⟩
      refine s2 (α ++ β) F1 σ1 H1 δ1 S1 vs ds Q r1 hs1 (ht.mono q1.sub) ?_
      cases q : u ds δ1 S1 with
      | ok a S' => rw [q] at h1; exact h1
      | err c fs S' => exact absurd q (h2.ne _ _ _ _ _ _)
      | stuck => rw [q] at h1; exact h1
  · cases d with
    | nil => cases h
    | cons d r =>
      have h' : (g d δ S).bind (fun δ1 S1 => u r δ1 S1) = .err c fs S' := h
      cases q : g d δ S with
      | ok a S1 => rw [q] at h'; exact h2.ne _ _ _ _ _ _ h'
      | err c fs S1 => exact h1.ne _ _ _ _ _ _ q
      | stuck => rw [q] at h'; cases h'
  · cases ds with
    | nil => cases h
    | cons d r =>
      have h' : (g d δ S).bind (fun δ1 S1 => u r δ1 S1) = .ok δ' S' := h
      cases q : g d δ S with
      | ok a S1 => rw [q] at h'; rw [List.length_cons, List.length_cons, h2.len _ _ _ _ _ h']
      | err c fs S1 => rw [q] at h'; cases h'
      | stuck => rw [q] at h'; cases h'
theorem pgn_tup {k : Nat} {u : List D → Sl → Sto → Res Sl} (hc : X.calm = true) (h : PGds X W es u) (hn : (assignEach es X.env).length = es.length := by rfl) (hst : (assignEach es X.env).findIdx? (·.1) = none := by rfl) : PGn X W (.Tuple es k pos) (gTup u) := by
  obtain ⟨t, p1, s1⟩ := h.ex
  refine ⟨⟨_, pg_tup hc p1 hn hst, fun α F σ H δ S v d Q hr hs hv h0 => ?_⟩, fun d δ S c fs S' h0 => ?_⟩
  · unfold gTup at h0
    cases q : deref S d with
    | tup ds =>
      rw [q] at h0
      dsimp only at h0
      obtain ⟨a, xs, e1, e2, e3⟩ := hr.viewT hv q
      have len : ds.length = es.length := by
        cases q2 : u ds δ S with
        | ok δ' S' => exact h.len _ _ _ _ _ q2
        | err c fs S' => exact absurd q2 (h.ne _ _ _ _ _ _)
        | stuck => rw [q2] at h0; exact h0.elim
      exact ⟨a, xs, e1, e2, by rw [e3.length]; exact len, s1 α F σ H δ S xs ds Q hr hs e3 h0⟩
    | _ => rw [q] at h0; exact h0.elim
  · unfold gTup at h0
    cases q : deref S d with
    | tup ds => rw [q] at h0; exact h.ne _ _ _ _ _ _ h0
    | _ => rw [q] at h0; cases h0

/-! ### statements -/
theorem psds_nil : PSds X W [] sNext := ⟨_, pss_nil, fun α F σ H δ S E hr hs h => h.nx hr hs⟩
theorem psds_cons {st : Stmt} {sts : List Stmt} {r u : RS} (h1 : PSd X W st r) (h2 : PSds X W sts u) : PSds X W (st :: sts) (sSeq r u) := by
  obtain ⟨t, p1, s1⟩ := h1.ex
  obtain ⟨t', p2, s2⟩ := h2.ex
  refine ⟨_, pss_cons p1 p2, fun α F σ H δ S E hr hs h => ?_⟩
  refine s1 α F σ H δ S _ hr hs ?_
  unfold sSeq at h
  cases q : r δ S with
  | nx δ1 S1 =>
    rw [q] at h
    exact fun σ' H' β F' r1 q1 hs1 => s2 (α ++ β) F' σ' H' δ1 S1 E r1 hs1 (wpS.step q1 h)
  | rt d S1 => rw [q] at h; exact h
  | bk δ S1 => rw [q] at h; exact h
  | ct δ S1 => rw [q] at h; exact h
  | err c fs δ S1 => rw [q] at h; exact h
  | stuck => rw [q] at h; exact h
theorem psds_one {st : Stmt} {r : RS} (h1 : PSd X W st r) : PSds X W [st] r := let ⟨t, p, s⟩ := h1.ex; ⟨t, pss_one p, s⟩
theorem psd_pass : PSd X W (.Pass pos) sNext := ⟨_, ps_pass, fun α F σ H δ S E hr hs h => h.nx hr hs⟩
theorem psd_break : PSd X W (.Break pos) sBreak := ⟨_, ps_break, fun α F σ H δ S E hr hs h => h.bk hr hs⟩
theorem psd_cont : PSd X W (.Continue pos) sCont := ⟨_, ps_continue, fun α F σ H δ S E hr hs h => h.ct hr hs⟩
theorem psd_doc {x : Str} {j : Nat} {pos' : Pos} : PSd X W (.Expr (.Constant (.str x) j pos) pos') sNext := ⟨_, ps_doc, fun α F σ H δ S E hr hs h => h.nx hr hs⟩
theorem psd_never {st : Stmt} : PSd X W st sNever := ⟨_, ps_never, fun α F σ H δ S E hr hs h => h⟩
theorem psd_expr (ha : PD X W e ra) (hsw : swapsWith e none pos.line X.env = pure false := by rfl) : PSd X W (.Expr e pos) (sExpr ra) := by
  obtain ⟨t, p1, s1⟩ := ha.ex
  refine ⟨_, ps_expr p1 hsw, fun α F σ H δ S E hr hs h => ?_⟩
  exact s1 α F σ H δ S _ hr hs (wpS.out h hs fun d S1 _ x H1 β F1 r1 q1 v1 h1 => h1.nx r1 (hs.mono q1.sub))
theorem psd_ret (ha : PD X W e ra) : PSd X W (.Return (some e) pos) (sRet ra) := by
  obtain ⟨t, p1, s1⟩ := ha.ex
  refine ⟨_, ps_ret p1, fun α F σ H δ S E hr hs h => ?_⟩
  exact s1 α F σ H δ S _ hr hs (wpS.out h hs fun d S1 _ x H1 β F1 r1 q1 v1 h1 => h1.rt r1 v1)
theorem psd_retN : PSd X W (.Return none pos) (sRet (rC .non)) := by
  refine ⟨_, ps_retN, fun α F σ H δ S E hr hs h => ?_⟩
  have h' : wpS X.K X.mg α F H (.rt .non S) E W := h
  exact h'.rt hr .non
theorem psd_if {p q : List Stmt} {t u : RS} (hc : PB X W c ba) (ha : PSds X W p t) (hb : PSds X W q u) : PSd X W (.If c p q pos) (sIf ba t u) := by
  obtain ⟨tc, p0, s0⟩ := hc.ex
  obtain ⟨t', p1, s1⟩ := ha.ex
  obtain ⟨u', p2, s2⟩ := hb.ex
  refine ⟨_, ps_if p0 p1 p2, fun α F σ H δ S E hr hs h => ?_⟩
  refine s0 α F σ H δ S _ hr hs (wpS.out h hs fun d S1 _ x H1 β F1 r1 q1 v1 h1 => ?_)
  have e : x = d := v1
  subst e
  cases x with
  | true => exact s1 (α ++ β) F1 σ H1 δ S1 E r1 (hs.mono q1.sub) h1
  | false => exact s2 (α ++ β) F1 σ H1 δ S1 E r1 (hs.mono q1.sub) h1
theorem psd_asg {tg : Expr} {g : RG} (he : PD X W e ra) (hg : PGd X W tg g) (hsw : swapsWithSole [tg] e pos.line X.env = pure false := by rfl) (hw : swappedStores [tg] e X.env = pure none := by rfl) (h1 : (assignEach [tg] X.env).map (·.2) = [assign tg X.env] := by rfl) : PSd X W (.Assign [tg] e pos) (sAsg ra g) := by
  obtain ⟨t, p1, s1⟩ := he.ex
  obtain ⟨tg', p2, s2⟩ := hg.ex
  refine ⟨_, ps_asg p1 p2 hsw hw h1, fun α F σ H δ S E hr hs h => ?_⟩
  refine s1 α F σ H δ S _ hr hs (wpS.out h hs fun d S1 _ x H1 β F1 r1 q1 v1 h1 => ?_)
  refine s2 (α ++ β) F1 σ H1 δ S1 x d _ r1 (hs.mono q1.sub) v1 (wpS.out h1 (hs.mono q1.sub) fun δ1 S2 _ σ1 H2 γ F2 r2 q2 v2 h2 => ?_)
  exact h2.nx r2 v2

/-! ### loops -/
/-- J walks ds, whatever else is laid -/
structure ItOk (K : Fg) (mg : Str → Option Value) (F : Hp) (α : List Addr) (J : It) (ds : List D) : Prop where
  go : ∀ (F' H' : Hp) (i : Nat), Sub F F' → Sub F' H' → i < ds.length → J.go i H'
  stop : ∀ (F' H' : Hp), Sub F F' → Sub F' H' → J.stop ds.length H'
  yld : ∀ (F' H' H2 : Hp) (i : Nat) (x : V) (d : D), Sub F F' → Sub F' H' → ds[i]? = some d → J.yld i H' x H2 → (H2 = H' ∧ DV K mg F' α x d) ∨ ∃ T o, H' T = none ∧ H2 = upd H' T o ∧ DV K mg (upd F' T o) α x d
theorem ItOk.mono {J : It} {ds : List D} (h : ItOk K mg F α J ds) (s : Sub F F1) : ItOk K mg F1 (α ++ β) J ds where
  go := fun F' H' i a b => h.go F' H' i (s.trans a) b
  stop := fun F' H' a b => h.stop F' H' (s.trans a) b
  yld := fun F' H' H2 i x d a b c q => (h.yld F' H' H2 i x d (s.trans a) b c q).imp (fun ⟨z, y⟩ => ⟨z, y.mono (Sub.refl _)⟩) fun ⟨T, o, z1, z2, y⟩ => ⟨T, o, z1, z2, y.mono (Sub.refl _)⟩
def relI (K : Fg) (mg : Str → Option Value) : RelT It (List D) := fun F α J ds => ItOk K mg F α J ds
def SndI (K : Fg) (mg : Str → Option Value) (W : WX) (t : TI) (r : RA) : Prop := ∀ α F σ H δ S (Q : It → Hp → Prop), Rel K mg α F H S → Slots K mg F α σ δ → wp K mg α F H (relI K mg) (r δ S) Q (fun c d H' => W c d σ H') → t σ H Q
structure PId (X : Cx) (W : WX) (tg iter : Expr) (r : RA) : Prop where
  ex : ∃ t, PI X tg iter t ∧ SndI X.K X.mg W t r
/-- the item that came -/
theorem ItOk.came {J : It} {ds : List D} {H2 : Hp} {i : Nat} {x : V} {d : D} (h : ItOk K mg F α J ds) (hr : Rel K mg α F H S) (hd : ds[i]? = some d) (q : J.yld i H x H2) :
    ∃ F2, Rel K mg (α ++ []) F2 H2 S ∧ Stp α F H [] F2 H2 ∧ DV K mg F2 (α ++ []) x d := by
  rcases h.yld F H H2 i x d (Sub.refl F) hr.sub hd q with ⟨e, v⟩ | ⟨T, o, e1, e2, v⟩
  · subst e
    refine ⟨F, ?_, Stp.refl, v.mono (Sub.refl F)⟩
    rw [List.append_nil]; exact hr
  · subst e2
    obtain ⟨a1, a2⟩ := hr.newF (o := o) e1
    exact ⟨_, a1, a2, v.mono (Sub.refl _)⟩
theorem drop_cons {A : Type} {l : List A} {i : Nat} {d : A} (h : l[i]? = some d) : l.drop i = d :: l.drop (i + 1) := by
  obtain ⟨hi, e⟩ := List.getElem?_eq_some_iff.mp h
  rw [List.drop_eq_getElem_cons hi, e]
theorem psd_for {tg iter : Expr} {body : List Stmt} {ri : RA} {g : RG} {r : RS} (hp : PassesOwn (model X.prog X.w) X.A X.env X.xe) (hc : X.calm = true) (hi : PId X W tg iter ri) (hg : PGd X W tg g) (hb : PSds X W body r) (hsx : ∀ x, foldedSetIterable iter X.env x = pure x := by intro _; rfl) : PSd X W (.For tg iter body [] pos) (sFor ri g r) := by
  obtain ⟨ti, p1, s1⟩ := hi.ex
  obtain ⟨tg', p2, s2⟩ := hg.ex
  obtain ⟨tb, p3, s3⟩ := hb.ex
  refine ⟨_, ps_for hp hc p1 p2 p3 hsx, fun α F σ H δ S E hr hs h => ?_⟩
  refine s1 α F σ H δ S _ hr hs (wpS.out h hs fun ds S1 _ J H1 β F1 r1 q1 v1 h1 => ?_)
  have v1 : ItOk X.K X.mg F1 (α ++ β) J ds := v1
  refine ⟨fun i m σ' H' => i + m = ds.length ∧ ∃ γ F' δ' S', Rel X.K X.mg (α ++ β ++ γ) F' H' S' ∧ Sub F1 F' ∧ Slots X.K X.mg F' (α ++ β ++ γ) σ' δ' ∧ wpS X.K X.mg (α ++ β ++ γ) F' H' (forL g r (ds.drop i) δ' S') E W, ⟨ds.length, by omega, [], F1, δ, S1, ?_⟩, fun i m σ' H' ⟨hm, γ, F', δ', S', r2, sb, hs2, h2⟩ => ?_⟩
  · rw [List.append_nil]
    exact ⟨r1, Sub.refl _, hs.mono q1.sub, h1⟩
  · have v2 : ItOk X.K X.mg F' (α ++ β ++ γ) J ds := v1.mono sb
    by_cases hlt : i < ds.length
    · obtain ⟨d, hd⟩ : ∃ d, ds[i]? = some d := ⟨_, List.getElem?_eq_getElem hlt⟩
      refine .inr ⟨v2.go F' H' i (Sub.refl _) r2.sub hlt, fun σ2 H2 => ∃ γ F' δ' S', Rel X.K X.mg (α ++ β ++ γ) F' H2 S' ∧ Sub F1 F' ∧ Slots X.K X.mg F' (α ++ β ++ γ) σ2 δ' ∧ wpS X.K X.mg (α ++ β ++ γ) F' H2 (forL g r (ds.drop (i + 1)) δ' S') E W, fun σ2 H2 z => ⟨m - 1, by omega, by omega, z⟩, fun x H2 hy => ?_⟩
      obtain ⟨F2, r3, q3, v3⟩ := v2.came r2 hd hy
      rw [drop_cons hd] at h2
      have h3 := wpS.step q3 h2
      refine s2 (α ++ β ++ γ ++ []) F2 σ' H2 δ' S' x d _ r3 (hs2.mono q3.sub) v3 (wpS.out h3 (hs2.mono q3.sub) fun δ1 S2 _ σ1 H3 ε F3 r4 q4 v4 h4 => ?_)
      refine s3 (α ++ β ++ γ ++ [] ++ ε) F3 σ1 H3 δ1 S2 _ r4 v4 ?_
      have sb3 : Sub F1 F3 := (sb.trans q3.sub).trans q4.sub
      have ass : ∀ ζ : List Addr, α ++ β ++ γ ++ [] ++ ε ++ ζ = α ++ β ++ (γ ++ ε ++ ζ) := fun ζ => by simp [List.append_assoc]
      cases q : r δ1 S2 with
      | nx δ2 S3 =>
        rw [q] at h4
        intro σ4 H4 ζ F4 r5 q5 v5
        have h5 := wpS.step q5 h4
        rw [ass] at r5 v5 h5
        exact ⟨_, F4, δ2, S3, r5, sb3.trans q5.sub, v5, h5⟩
      | ct δ2 S3 =>
        rw [q] at h4
        intro σ4 H4 ζ F4 r5 q5 v5
        have h5 := wpS.step q5 h4
        rw [ass] at r5 v5 h5
        exact ⟨_, F4, δ2, S3, r5, sb3.trans q5.sub, v5, h5⟩
      | bk δ2 S3 => rw [q] at h4; exact h4
      | rt d S3 => rw [q] at h4; exact h4
      | err c fs δ2 S3 => rw [q] at h4; exact h4
      | stuck => rw [q] at h4; exact h4
    · have e : i = ds.length := by omega
      subst e
      refine .inl ⟨v2.stop F' H' (Sub.refl _) r2.sub, ?_⟩
      rw [List.drop_length] at h2
      exact wpS.nx h2 r2 hs2
theorem psd_while {c : Expr} {body : List Stmt} {r : RS} (fuel : Sl → Sto → Nat) (hp : PassesOwn (model X.prog X.w) X.A X.env X.xe) (hcd : PB X W c ba) (hb : PSds X W body r) : PSd X W (.While c body [] pos) (sWhile fuel ba r) := by
  obtain ⟨tc, p1, s1⟩ := hcd.ex
  obtain ⟨tb, p3, s3⟩ := hb.ex
  refine ⟨_, ps_while hp p1 p3, fun α F σ H δ S E hr hs h => ?_⟩
  refine ⟨fun m σ' H' => ∃ γ F' δ' S', Rel X.K X.mg (α ++ γ) F' H' S' ∧ Slots X.K X.mg F' (α ++ γ) σ' δ' ∧ wpS X.K X.mg (α ++ γ) F' H' (whileL ba r m δ' S') E W, ⟨fuel δ S, [], F, δ, S, ?_⟩, fun m σ' H' ⟨γ, F', δ', S', r2, hs2, h2⟩ => ?_⟩
  · rw [List.append_nil]
    exact ⟨hr, hs, h⟩
  · cases m with
    | zero => exact h2.elim
    | succ m =>
      refine s1 (α ++ γ) F' σ' H' δ' S' _ r2 hs2 (wpS.out h2 hs2 fun k S2 _ x H3 ε F3 r4 q4 v4 h4 => ?_)
      have e : x = k := v4
      subst e
      cases x with
      | false => exact wpS.nx h4 r4 (hs2.mono q4.sub)
      | true =>
        refine ⟨fun σ2 H2 => ∃ γ F' δ' S', Rel X.K X.mg (α ++ γ) F' H2 S' ∧ Slots X.K X.mg F' (α ++ γ) σ2 δ' ∧ wpS X.K X.mg (α ++ γ) F' H2 (whileL ba r m δ' S') E W, fun σ2 H2 z => ⟨m, Nat.lt_succ_self m, z⟩, ?_⟩
        refine s3 (α ++ γ ++ ε) F3 σ' H3 δ' S2 _ r4 (hs2.mono q4.sub) ?_
        have ass : ∀ ζ : List Addr, α ++ γ ++ ε ++ ζ = α ++ (γ ++ ε ++ ζ) := fun ζ => by simp [List.append_assoc]
        rw [if_pos rfl] at h4
        cases q : r δ' S2 with
        | nx δ2 S3 =>
          rw [q] at h4
          intro σ4 H4 ζ F4 r5 q5 v5
          have h5 := wpS.step q5 h4
          rw [ass] at r5 v5 h5
          exact ⟨_, F4, δ2, S3, r5, v5, h5⟩
        | ct δ2 S3 =>
          rw [q] at h4
          intro σ4 H4 ζ F4 r5 q5 v5
          have h5 := wpS.step q5 h4
          rw [ass] at r5 v5 h5
          exact ⟨_, F4, δ2, S3, r5, v5, h5⟩
        | bk δ2 S3 => rw [q] at h4; exact h4
        | rt d S3 => rw [q] at h4; exact h4
        | err c fs δ2 S3 => rw [q] at h4; exact h4
        | stuck => rw [q] at h4; exact h4
end
end DL

set_option Elab.async false
set_option linter.all false
set_option maxRecDepth 100000
set_option maxHeartbeats 4000000
set_option autoImplicit false
/-! Data layer, sixth part: list comprehensions, defs. -/
namespace DL
open PySem PySem.Spec PyProof.Rows L2

abbrev W0 : WX := fun _ _ _ _ => False
section
variable {X : Cx} {W : WX} {a b c e : Expr} {es rest : List Expr} {ra rb rc : RE} {ba bb : RB} {rs : RA} {pos p : Pos} {K : Fg} {mg : Str → Option Value} {α β : List Addr} {F F1 H H1 : Hp} {S : Sto}
/-- an expression's reading by its mirror alone -/
def tCanE (K : Fg) (mg : Str → Option Value) (W : WX) (r : RE) : TE := fun σ H Q => ∃ α F δ S, Rel K mg α F H S ∧ Slots K mg F α σ δ ∧ wp K mg α F H (relD K mg) (r δ S) Q (fun c d H' => W c d σ H')
def tCanB (K : Fg) (mg : Str → Option Value) (W : WX) (r : RB) : TT := fun σ H Q => ∃ α F δ S, Rel K mg α F H S ∧ Slots K mg F α σ δ ∧ wp K mg α F H relB (r δ S) Q (fun c d H' => W c d σ H')
theorem PD.can (h : PD X W a ra) : PE X a (tCanE X.K X.mg W ra) := by
  obtain ⟨t, p, s⟩ := h.ex
  exact ⟨fun pins sh σ H Q I ⟨α, F, δ, S, h1, h2, h3⟩ => p.run pins sh σ H Q I (s α F σ H δ S Q h1 h2 h3)⟩
theorem PB.can (h : PB X W a ba) : PT X a (tCanB X.K X.mg W ba) := by
  obtain ⟨t, p, s⟩ := h.ex
  exact ⟨fun pins sh σ H Q I ⟨α, F, δ, S, h1, h2, h3⟩ => p.run pins sh σ H Q I (s α F σ H δ S Q h1 h2 h3)⟩

/-! ### a comprehension's own targets -/
theorem wipe_set {σ : L2.St} {i : Nat} {x : Option V} : ∀ {vs : List Nat}, wipe (σ.set i x) vs = if i ∈ vs then wipe σ vs else (wipe σ vs).set i x
  | [] => rfl
  | v :: vs => by
    unfold wipe
    rw [wipe_set]
    by_cases h : i ∈ vs
    · rw [if_pos h, if_pos (List.mem_cons_of_mem _ h)]
    · rw [if_neg h]
      by_cases z : i = v
      · subst z
        rw [if_pos List.mem_cons_self, List.set_set]
      · rw [if_neg (by intro q; rcases List.mem_cons.mp q with q | q; exact z q; exact h q)]
        exact List.set_comm _ _ z
structure PGx (X : Cx) (vs : List Nat) (tg : Expr) (t : TG) (g : RG) : Prop where
  pg : PG X tg t
  snd : ∀ α F σ H δ S v d (Q : L2.St → Hp → Prop), Rel X.K X.mg α F H S → Slots X.K X.mg F α σ δ → DV X.K X.mg F α v d → wp X.K X.mg α F H (fun F α σ' δ' => Slots X.K X.mg F α σ' δ' ∧ wipe σ' vs = wipe σ vs) (g d δ S) Q (fun _ _ _ => False) → t v σ H Q
  ne : ∀ d δ S c fs S', g d δ S ≠ .err c fs S'
structure PGxs (X : Cx) (vs : List Nat) (tg : List Expr) (t : TGs) (g : List D → Sl → Sto → Res Sl) : Prop where
  pg : PGs X tg t
  snd : ∀ α F σ H δ S v d (Q : L2.St → Hp → Prop), Rel X.K X.mg α F H S → Slots X.K X.mg F α σ δ → DVs X.K X.mg F α v d → wp X.K X.mg α F H (fun F α σ' δ' => Slots X.K X.mg F α σ' δ' ∧ wipe σ' vs = wipe σ vs) (g d δ S) Q (fun _ _ _ => False) → t v σ H Q
  ne : ∀ d δ S c fs S', g d δ S ≠ .err c fs S'
  len : ∀ ds δ S δ' S', g ds δ S = .ok δ' S' → ds.length = tg.length
theorem pgx_name {vs : List Nat} (i : Nat) {x : Str} (hN : X.N.Nodup) (hv : i ∈ vs := by decide) (hi : X.N[i]? = some x := by rfl) (hx : Loc X.env.scope x := by first | exact Or.inl rfl | exact Or.inr rfl) (hf : X.fn x = true ∨ X.env.scope.names.lookup x = some .local := by first | exact .inl rfl | exact .inr rfl | assumption) : PGx X vs (.Name x pos) (L2.gName i) (gName i) := by
  refine ⟨pg_name hN hi hx hf, fun α F σ H δ S v d Q hr hs hd h => ?_, fun d δ S c fs S' h => by unfold gName at h; split at h <;> cases h⟩
  unfold gName at h
  split at h
  · exact h.now hr ⟨hs.set hd, by rw [wipe_set, if_pos hv]⟩
  · exact h.elim
theorem pgxs_nil {vs : List Nat} : PGxs X vs [] L2.gNil gNil := by
  refine ⟨pgs_nil, fun α F σ H δ S v d Q hr hs hv h => ?_, fun d δ S c fs S' h => ?_, fun ds δ S δ' S' h => ?_⟩
  · cases hv with
    | nil => exact ⟨rfl, h.now hr ⟨hs, rfl⟩⟩
    | cons _ _ => exact h.elim
  · cases d <;> cases h
  · cases ds with
    | nil => rfl
    | cons _ _ => cases h
theorem pgxs_cons {vs : List Nat} {t : TG} {t' : TGs} {g : RG} {u : List D → Sl → Sto → Res Sl} (h1 : PGx X vs e t g) (h2 : PGxs X vs es t' u) (hsy : (assignEach (e :: es) X.env).map (·.2) = assign e X.env :: (assignEach es X.env).map (·.2) := by rfl) : PGxs X vs (e :: es) (L2.gCons t t') (gCons g u) := by
  refine ⟨pgs_cons h1.pg h2.pg hsy, fun α F σ H δ S v d Q hr hs hv h => ?_, fun d δ S c fs S' h => ?_, fun ds δ S δ' S' h => ?_⟩
  · cases hv with
    | nil => exact h.elim
    | cons hv ht =>
      rename_i v d vs' ds
      refine ⟨v, vs', rfl, h1.snd α F σ H δ S v d _ hr hs hv (wp.bind h fun δ1 S1 _ σ1 H1 β F1 r1 q1 hs1 q => ?_)⟩
      refine h2.snd (α ++ β) F1 σ1 H1 δ1 S1 vs' ds Q r1 hs1.1 (ht.mono q1.sub) ?_
      rw [hs1.2]
      exact q
  · cases d with
    | nil => cases h
    | cons d r =>
      have h' : (g d δ S).bind (fun δ1 S1 => u r δ1 S1) = .err c fs S' := h
      cases q : g d δ S with
      | ok a S1 => rw [q] at h'; exact h2.ne _ _ _ _ _ _ h'
      | err c fs S1 => exact h1.ne _ _ _ _ _ _ q
      | stuck => rw [q] at h'; cases h'
  · cases ds with
    | nil => cases h
    | cons d r =>
      have h' : (g d δ S).bind (fun δ1 S1 => u r δ1 S1) = .ok δ' S' := h
      cases q : g d δ S with
      | ok a S1 => rw [q] at h'; rw [List.length_cons, List.length_cons, h2.len _ _ _ _ _ h']
      | err c fs S1 => rw [q] at h'; cases h'
      | stuck => rw [q] at h'; cases h'
theorem pgx_tup {vs : List Nat} {k : Nat} {t : TGs} {u : List D → Sl → Sto → Res Sl} (hc : X.calm = true) (h : PGxs X vs es t u) (hn : (assignEach es X.env).length = es.length := by rfl) (hst : (assignEach es X.env).findIdx? (·.1) = none := by rfl) : PGx X vs (.Tuple es k pos) (L2.gTup X.K es.length t) (gTup u) := by
  refine ⟨pg_tup hc h.pg hn hst, fun α F σ H δ S v d Q hr hs hv h0 => ?_, fun d δ S c fs S' h0 => ?_⟩
  · unfold gTup at h0
    cases q : deref S d with
    | tup ds =>
      rw [q] at h0
      dsimp only at h0
      obtain ⟨a, xs, e1, e2, e3⟩ := hr.viewT hv q
      have len : ds.length = es.length := by
        cases q2 : u ds δ S with
        | ok δ' S' => exact h.len _ _ _ _ _ q2
        | err c fs S' => exact absurd q2 (h.ne _ _ _ _ _ _)
        | stuck => rw [q2] at h0; exact h0.elim
      exact ⟨a, xs, e1, e2, by rw [e3.length]; exact len, h.snd α F σ H δ S xs ds Q hr hs e3 h0⟩
    | _ => rw [q] at h0; exact h0.elim
  · unfold gTup at h0
    cases q : deref S d with
    | tup ds => rw [q] at h0; exact h.ne _ _ _ _ _ _ h0
    | _ => rw [q] at h0; cases h0
theorem Slots.wipe {σ : L2.St} {δ : Sl} (h : Slots K mg F α σ δ) : ∀ vs : List Nat, Slots K mg F α (L2.wipe σ vs) (wipeD δ vs)
  | [] => h
  | v :: vs => by
    have ih := Slots.wipe h vs
    refine ⟨by show ((L2.wipe σ vs).set v none).length = ((wipeD δ vs).set v none).length; rw [List.length_set, List.length_set]; exact ih.1, fun j d e => ?_⟩
    have e' : ((wipeD δ vs).set v none)[j]? = some (some d) := e
    show ∃ w, ((L2.wipe σ vs).set v none)[j]? = some (some w) ∧ _
    by_cases z : v = j
    · subst z
      have hl : v < (wipeD δ vs).length := by
        have := (List.getElem?_eq_some_iff.mp e').1
        rw [List.length_set] at this; exact this
      rw [List.getElem?_set_self hl] at e'
      cases e'
    · rw [List.getElem?_set_ne z] at e' ⊢
      exact ih.2 j d e'

/-- what walks a comprehension: read within its block -/
structure PLc (X : Cx) (vs : List Nat) (scope : Scope) (tg elt : Expr) (ifs : List Expr) (t : TG) (tt : TT) (g : RG) (rt : RB) (re : RE) : Prop where
  g : ∀ (s : Shared) (H : Hp) (C : Addr) (cl : List (Str × Addr)) (fp : List Addr), PGx (X.blk s H scope (compEnvC scope cl C X.env) fp) vs tg t g
  t : ∀ (s : Shared) (H : Hp) (C : Addr) (cl : List (Str × Addr)) (fp : List Addr), PTs (X.blk s H scope (compEnvC scope cl C X.env) fp) ifs tt
  ts : ∀ α F σ H δ S (Q : Bool → Hp → Prop), Rel X.K X.mg α F H S → Slots X.K X.mg F α σ δ → wp X.K X.mg α F H relB (rt δ S) Q (fun _ _ _ => False) → tt σ H Q
  e : ∀ (s : Shared) (H : Hp) (C : Addr) (cl : List (Str × Addr)) (fp : List Addr), PD (X.blk s H scope (compEnvC scope cl C X.env) fp) W0 elt re
theorem plc_no {vs : List Nat} {scope : Scope} {tg elt : Expr} {t : TG} {g : RG} {re : RE} (hg : ∀ (s : Shared) (H : Hp) (C : Addr) (cl : List (Str × Addr)) (fp : List Addr), PGx (X.blk s H scope (compEnvC scope cl C X.env) fp) vs tg t g)
    (he : ∀ (s : Shared) (H : Hp) (C : Addr) (cl : List (Str × Addr)) (fp : List Addr), PD (X.blk s H scope (compEnvC scope cl C X.env) fp) W0 elt re) : PLc X vs scope tg elt [] t tYes g bYes re :=
  ⟨hg, fun _ _ _ _ _ => pts_nil, fun α F σ H δ S Q hr _ h => wp.now (b := true) h hr rfl, he⟩
theorem plc_if {vs : List Nat} {scope : Scope} {tg elt c : Expr} {t : TG} {g : RG} {bc : RB} {re : RE} (hg : ∀ (s : Shared) (H : Hp) (C : Addr) (cl : List (Str × Addr)) (fp : List Addr), PGx (X.blk s H scope (compEnvC scope cl C X.env) fp) vs tg t g)
    (hc : ∀ (s : Shared) (H : Hp) (C : Addr) (cl : List (Str × Addr)) (fp : List Addr), PB (X.blk s H scope (compEnvC scope cl C X.env) fp) W0 c bc) (he : ∀ (s : Shared) (H : Hp) (C : Addr) (cl : List (Str × Addr)) (fp : List Addr), PD (X.blk s H scope (compEnvC scope cl C X.env) fp) W0 elt re) :
    PLc X vs scope tg elt [c] t (tCanB X.K X.mg W0 bc) g bc re :=
  ⟨hg, fun s H C cl fp => pts_one (hc s H C cl fp).can, fun α F σ H δ S Q hr hs h => ⟨α, F, δ, S, hr, hs, h⟩, he⟩
theorem bind_ok {A B : Type} {r : Res A} {f : A → Sto → Res B} {b : B} {S' : Sto} (h : r.bind f = .ok b S') : ∃ a S1, r = .ok a S1 ∧ f a S1 = .ok b S' := by
  cases r with
  | ok a S1 => exact ⟨a, S1, rfl, h⟩
  | err c fs S1 => cases h
  | stuck => cases h
theorem wipe_idem (σ : L2.St) : ∀ vs : List Nat, L2.wipe (L2.wipe σ vs) vs = L2.wipe σ vs
  | [] => rfl
  | v :: vs => by
    show (L2.wipe ((L2.wipe σ vs).set v none) vs).set v none = (L2.wipe σ vs).set v none
    rw [wipe_set, wipe_idem σ vs]
    split
    · rfl
    · rw [List.set_set]
structure Stay (K : Fg) (mg : Str → Option Value) (α : List Addr) (F H : Hp) (ad : Addr) (acc : List V) (accD : List D) (γ : List Addr) (F' H' : Hp) (S' : Sto) : Prop where
  rel : Rel K mg (α ++ γ) F' H' S'
  stp : Stp α F H γ F' H'
  nin : ad ∉ α ++ γ
  nF : F' ad = none
  at' : H' ad = some (.lst acc)
  dvs : DVs K mg F' (α ++ γ) acc accD
theorem Stay.step {ad : Addr} {acc : List V} {accD : List D} {γ ε : List Addr} {F' H' F2 H2 : Hp} {S' S2 : Sto} (st : Stay K mg α F H ad acc accD γ F' H' S') (r : Rel K mg (α ++ γ ++ ε) F2 H2 S2) (q : Stp (α ++ γ) F' H' ε F2 H2) : Stay K mg α F H ad acc accD (γ ++ ε) F2 H2 S2 := by
  have hn : H' ad ≠ none := by rw [st.at']; exact fun z => nomatch z
  refine ⟨by rw [← List.append_assoc]; exact r, st.stp.trans q, ?_, q.fnew ad st.nin st.nF hn, q.frame ad _ st.nin st.at', by rw [← List.append_assoc]; exact st.dvs.mono q.sub⟩
  rw [← List.append_assoc]
  intro z
  rcases List.mem_append.mp z with z | z
  · exact st.nin z
  · exact hn (q.new ad z)
/-- the loop of a comprehension -/
theorem lc_all {scope : Scope} {vs : List Nat} {tg elt : Expr} {ifs : List Expr} {t : TG} {tt : TT} {g : RG} {rt : RB} {re : RE} (L : PLc X vs scope tg elt ifs t tt g rt re) {σ : L2.St} {δ : Sl} {S1 S2 : Sto} {ds zs : List D} {J : It} {ad : Addr} {Qd : Hp → Prop}
    (hr : Rel X.K X.mg α F H S1) (hs : Slots X.K X.mg F α σ δ) (hJ : ItOk X.K X.mg F α J ds) (hD : H ad = none) (hz : lcL g rt re ds (wipeD δ vs) S1 = .ok zs S2) (hl : zs.length ≤ sizeLine)
    (hq : ∀ H' β F', Rel X.K X.mg (α ++ β) F' H' S2 → Stp α F H β F' H' → ad ∉ α ++ β → F' ad = none → Own X.K X.mg F' (α ++ β) H' ad (.lst zs) → Qd H') :
    ∃ Wl : Nat → Nat → Hp → Prop, (∃ m, Wl 0 m (upd H ad (.lst []))) ∧ ∀ i m H, Wl i m H → (J.stop i H ∧ Qd H) ∨ (J.go i H ∧ ∃ Nx : Hp → Prop, (∀ H', Nx H' → ∃ m', m' < m ∧ Wl (i + 1) m' H') ∧ ∀ x H', J.yld i H x H' → t x (L2.wipe σ vs) H' fun σ2 H2 => L2.wipe σ2 vs = L2.wipe σ vs ∧ tt σ2 H2 fun b H3 =>
      if b = true then tCanE X.K X.mg W0 re σ2 H3 fun y H4 => ∃ acc, H4 ad = some (.lst acc) ∧ acc.length < sizeLine ∧ Nx (upd H4 ad (.lst (acc ++ [y]))) else Nx H3) := by
  refine ⟨fun i m H' => i + m = ds.length ∧ ∃ γ F' S' acc accD, Stay X.K X.mg α F H ad acc accD γ F' H' S' ∧
    (lcL g rt re (ds.drop i) (wipeD δ vs) S').bind (fun ys S3 => .ok (accD ++ ys) S3) = .ok zs S2, ⟨ds.length, by omega, [], F, S1, [], [], ?_, ?_⟩, fun i m H' ⟨hm, γ, F', S', acc, accD, st, eq⟩ => ?_⟩
  · have n := hr.notin hD
    have f := hr.notF hD
    refine ⟨?_, Stp.refl.other hD, ?_, f, upd_same, .nil⟩
    · rw [List.append_nil]; exact hr.other n f
    · rw [List.append_nil]; exact n
  · rw [List.drop_zero, hz]
    rfl
  · have v2 : ItOk X.K X.mg F' (α ++ γ) J ds := hJ.mono st.stp.sub
    by_cases hlt : i < ds.length
    · obtain ⟨d, hd⟩ : ∃ d, ds[i]? = some d := ⟨_, List.getElem?_eq_getElem hlt⟩
      refine .inr ⟨v2.go F' H' i (Sub.refl _) st.rel.sub hlt, fun H4 => ∃ γ F' S' acc accD, Stay X.K X.mg α F H ad acc accD γ F' H4 S' ∧
        (lcL g rt re (ds.drop (i + 1)) (wipeD δ vs) S').bind (fun ys S3 => .ok (accD ++ ys) S3) = .ok zs S2, fun H4 z => ⟨m - 1, by omega, by omega, z⟩, fun x H2 hy => ?_⟩
      obtain ⟨F2, r3, q3, v3⟩ := v2.came st.rel hd hy
      have st3 := st.step r3 q3
      rw [drop_cons hd] at eq
      obtain ⟨ys, S3, eq1, eq2⟩ := bind_ok eq
      cases eq2
      unfold lcL at eq1
      obtain ⟨δ1, S4, eg, eq1⟩ := bind_ok eq1
      obtain ⟨k, S5, et, eq1⟩ := bind_ok eq1
      have hs3 : Slots X.K X.mg F2 (α ++ γ ++ []) (L2.wipe σ vs) (wipeD δ vs) := (((hs.mono st.stp.sub).mono q3.sub).wipe vs)
      refine (L.g X.s_0 H 0 [] []).snd (α ++ γ ++ []) F2 (L2.wipe σ vs) H2 (wipeD δ vs) S' x d _ r3 hs3 v3 ?_
      rw [eg]
      intro σ1 H5 ε F5 r5 q5 ⟨hs5, hw⟩
      rw [List.append_assoc α γ []] at q5 r5 hs5
      have st5 := st3.step r5 q5
      refine ⟨hw.trans (wipe_idem σ vs), ?_⟩
      refine L.ts _ F5 σ1 H5 δ1 S4 _ r5 hs5 ?_
      rw [et]
      intro b H6 ζ F6 r6 q6 eb
      have eb : b = k := eb
      subst eb
      rw [List.append_assoc α (γ ++ []) ε] at q6 r6
      have st6 := st5.step r6 q6
      cases b with
      | false =>
        rw [if_neg (by decide)]
        rw [if_neg (by decide)] at eq1
        exact ⟨_, F6, S5, acc, accD, st6, by rw [eq1]; rfl⟩
      | true =>
        rw [if_pos rfl]
        rw [if_pos rfl] at eq1
        obtain ⟨y, S6, ey, eq1⟩ := bind_ok eq1
        obtain ⟨ys', S7, er, eq1⟩ := bind_ok eq1
        cases eq1
        have hs6 := hs5.mono (β := ζ) q6.sub
        rw [List.append_assoc α (γ ++ []) ε] at hs6
        refine ⟨_, F6, δ1, S5, r6, hs6, ?_⟩
        rw [ey]
        intro v H7 η F7 r7 q7 v7
        rw [List.append_assoc α (γ ++ [] ++ ε) ζ] at q7 r7 v7
        have st7 := st6.step r7 q7
        have hlen : acc.length < sizeLine := by
          have e1 := st.dvs.length
          rw [List.length_append, List.length_cons] at hl
          omega
        have v7 : DV X.K X.mg F7 _ v y := v7
        refine ⟨acc, st7.at', hlen, _, F7, S6, acc ++ [v], accD ++ [y], ⟨st7.rel.other st7.nin st7.nF, ?_, st7.nin, st7.nF, upd_same, st7.dvs.append (.cons ?_ .nil)⟩, ?_⟩
        · exact st7.stp.other hD
        · simpa only [List.append_assoc] using v7
        · rw [er]
          show Res.ok (accD ++ [y] ++ ys') _ = _
          rw [List.append_assoc] <;> rfl
    · have e : i = ds.length := by omega
      subst e
      rw [List.drop_length] at eq
      have eq' : Res.ok (accD ++ []) S' = Res.ok zs S2 := eq
      rw [List.append_nil] at eq'
      cases eq'
      exact .inl ⟨v2.stop F' H' (Sub.refl _) st.rel.sub, hq H' γ F' st.rel st.stp st.nin st.nF ⟨acc, st.at', st.dvs⟩⟩
/-- a mirror that came to a list that fits -/
theorem lc_fits {g : RG} {rt : RB} {re : RE} {vs : List Nat} {δ : Sl} {S1 : Sto} {ds : List D} {Q : VK} {W : XK} (h : wpF K mg α F H ((noErr (lcL g rt re ds (wipeD δ vs) S1)).bind fun ys S2 => if ys.length ≤ sizeLine then .ok (.lst ys) S2 else .stuck) Q W) :
    ∃ zs S2, lcL g rt re ds (wipeD δ vs) S1 = .ok zs S2 ∧ zs.length ≤ sizeLine ∧ wpF K mg α F H (.ok (.lst zs) S2) Q W := by
  cases q : lcL g rt re ds (wipeD δ vs) S1 with
  | ok zs S2 =>
    rw [q] at h
    have h' : wpF K mg α F H (if zs.length ≤ sizeLine then .ok (.lst zs) S2 else .stuck) Q W := h
    split at h'
    · rename_i hl; exact ⟨zs, S2, rfl, hl, h'⟩
    · exact h'.elim
  | err c fs S2 => rw [q] at h; exact h.elim
  | stuck => rw [q] at h; exact h.elim
def sndLc (X : Cx) (wi : TI) (vs : List Nat) (t : TG) (tt : TT) (re : RE) : TE := tLc wi t tt (tCanE X.K X.mg W0 re) vs
theorem lc_snd {ri : RA} {wi : TI} {scope : Scope} {vs : List Nat} {tg elt : Expr} {ifs : List Expr} {t : TG} {tt : TT} {g : RG} {rt : RB} {re : RE} (si : SndI X.K X.mg W wi ri) (L : PLc X vs scope tg elt ifs t tt g rt re) {σ : L2.St} {δ : Sl} {Q : VK}
    (hr : Rel X.K X.mg α F H S) (hs : Slots X.K X.mg F α σ δ) (h : wpF X.K X.mg α F H (rLc ri g vs rt re δ S) Q (fun c d H' => W c d σ H')) : tLc wi t tt (tCanE X.K X.mg W0 re) vs σ H Q := by
  refine si α F σ H δ S _ hr hs (wpF.bind h fun ds S1 _ J H1 β F1 r1 q1 v1 h1 => ?_)
  intro ad hD
  obtain ⟨zs, S2, e1, e2, h2⟩ := lc_fits h1
  refine lc_all (Qd := fun H' => Q (.ref ad) H') L r1 (hs.mono q1.sub) v1 hD e1 e2 fun H' γ F' r2 q2 n f o => ?_
  exact h2 ad H' γ F' r2 q2 hD n f o (by intro z; cases z)
theorem pf_lc {tg iter elt : Expr} {ifs : List Expr} {scope : Scope} {own : List (Str × Nat)} {t : TG} {tt : TT} {ri : RA} {g : RG} {rt : RB} {re : RE} (hc : X.calm = true) (hN : X.N.Nodup) (hi : PId X W tg iter ri) (ok : BlkOk X.N X.env.scope scope own) (L : PLc X (own.map (·.2)) scope tg elt ifs t tt g rt re)
    (hsx : ∀ x, foldedSetIterable iter X.env x = pure x := by intro _; rfl) : PF X W (.ListComp elt [⟨tg, iter, ifs, 0⟩] scope pos) (rLc ri g (own.map (·.2)) rt re) := by
  obtain ⟨wi, p1, s1⟩ := hi.ex
  exact ⟨_, pe_lc hc hN p1 ok (fun s H C cl fp => (L.g s H C cl fp).pg) L.t (fun s H C cl fp => (L.e s H C cl fp).can) hsx, fun α F σ H δ S Q hr hs h => lc_snd s1 L hr hs h⟩
/-- what is done with a made list: it is the store's, or stands for good -/
theorem wpF.keep {r : Res D} {σ : L2.St} {Q : VK} (h : wp K mg α F H (relD K mg) (r.bind fun d S1 => match d with | .lst ds => .ok (.lst ds) S1 | _ => .stuck) Q (fun c d H' => W c d σ H')) : wpF K mg α F H r Q (fun c d H' => W c d σ H') := by
  cases r with
  | ok d S' =>
    intro p H' β F' r1 s1 hp ha hf ho hd
    cases d with
    | lst ds =>
      have h2 : wp K mg α F H (relD K mg) (.ok (.lst ds) S') Q _ := h
      obtain ⟨xs, o1, o2⟩ := ho
      obtain ⟨a1, a2⟩ := r1.freeze (o := .lst xs) ha hf o1
      exact h2 (.ref p) H' β (upd F' p (.lst xs)) a1 ⟨s1.new, s1.sub.trans a2, s1.frame, s1.live, fun a g1 g2 g3 => by
        have z : a ≠ p := fun z => g3 (z ▸ hp)
        rw [upd_ne z]; exact s1.fnew a g1 g2 g3⟩ (.lst (.inl (Rd.of upd_same)) (by have := o2.mono (β := []) a2; rw [List.append_nil] at this; exact this))
    | _ => exact (show False from h).elim
  | err c fs S' => exact h
  | stuck => exact h
theorem wpF.ownd {r : Res D} {σ : L2.St} {Q : VK} (h : wp K mg α F H (relD K mg) (r.bind fun d S1 => .ok (.ptr S1.length) (S1 ++ [d])) Q (fun c d H' => W c d σ H')) : wpF K mg α F H r Q (fun c d H' => W c d σ H') := by
  cases r with
  | ok d S' =>
    intro p H' β F' r1 s1 hp ha hf ho hd
    have h2 : wp K mg α F H (relD K mg) (.ok (.ptr S'.length) (S' ++ [d])) Q _ := h
    refine h2 (.ref p) H' (β ++ [p]) F' ?_ ⟨fun b hb => ?_, s1.sub, s1.frame, s1.live, s1.fnew⟩ ?_
    · rw [← List.append_assoc]
      exact r1.adopt ha hf ho hd
    · rcases List.mem_append.mp hb with z | z
      · exact s1.new b z
      · have : b = p := by simpa using z
        rw [this]; exact hp
    · rw [← List.append_assoc]
      refine .ptr ?_
      rw [List.getElem?_append_right (by rw [r1.len]; exact Nat.le_refl _), r1.len, Nat.sub_self] <;> rfl
  | err c fs S' => exact h
  | stuck => exact h
/-- name = [..] on one line -/
theorem psd_setLc {i : Nat} {y : Str} {py pos' : Pos} {tg iter elt : Expr} {ifs : List Expr} {scope : Scope} {own : List (Str × Nat)} {t : TG} {tt : TT} {ri : RA} {g : RG} {rt : RB} {re : RE} (hc : X.calm = true) (hN : X.N.Nodup) (hi : PId X W tg iter ri) (ok : BlkOk X.N X.env.scope scope own) (L : PLc X (own.map (·.2)) scope tg elt ifs t tt g rt re)
    (hsw : swapsWith (.ListComp elt [⟨tg, iter, ifs, 0⟩] scope pos) (some (.Name y py)) pos'.line X.env = pure true) (hy : X.N[i]? = some y := by rfl) (hyl : X.env.scope.names.lookup y = some .local := by rfl) (hsx : ∀ x, foldedSetIterable iter X.env x = pure x := by intro _; rfl) :
    PSd X W (.Assign [.Name y py] (.ListComp elt [⟨tg, iter, ifs, 0⟩] scope pos) pos') (sAsg (rKeep (rLc ri g (own.map (·.2)) rt re)) (gName i)) ∧ PSd X W (.Assign [.Name y py] (.ListComp elt [⟨tg, iter, ifs, 0⟩] scope pos) pos') (sAsg (rOwn (rLc ri g (own.map (·.2)) rt re)) (gName i)) := by
  obtain ⟨wi, p1, s1⟩ := hi.ex
  have P := ps_setLc (te := tCanE X.K X.mg W0 re) (i := i) hc hN hy hyl hsw p1 ok (fun s H C cl fp => (L.g s H C cl fp).pg) L.t (fun s H C cl fp => (L.e s H C cl fp).can) hsx
  have nm : ∀ {α β : List Addr} {F F1 H H1 : Hp} {S1 : Sto} {σ : L2.St} {δ : Sl} {E : Ends} {d : D} {v : V}, Slots X.K X.mg F α σ δ → Rel X.K X.mg (α ++ β) F1 H1 S1 → Stp α F H β F1 H1 → DV X.K X.mg F1 (α ++ β) v d → wpS X.K X.mg (α ++ β) F1 H1 ((gName i d δ S1).out δ fun δ1 S2 => .nx δ1 S2) E W → E.nx (σ.set i (some v)) H1 := by
    intro α β F F1 H H1 S1 σ δ E d v hs hr st hv h
    unfold gName at h
    split at h
    · exact wpS.nx h hr ((hs.mono st.sub).set hv)
    · exact h.elim
  refine ⟨⟨_, P, fun α F σ H δ S E hr hs h => ?_⟩, ⟨_, P, fun α F σ H δ S E hr hs h => ?_⟩⟩
  · exact lc_snd s1 L hr hs (wpF.keep (wpS.out h hs fun d S1 _ x H1 β F1 r1 q1 v1 h1 => nm hs r1 q1 v1 h1))
  · exact lc_snd s1 L hr hs (wpF.ownd (wpS.out h hs fun d S1 _ x H1 β F1 r1 q1 v1 h1 => nm hs r1 q1 v1 h1))

/-! ### defs -/
theorem closedK_snd {n : Nat} : ∀ {kvs : List (D × D)}, closedK n kvs = true → closedL n (kvs.map (·.2)) = true
  | [], _ => rfl
  | (k, v) :: r, h => by
    unfold closedK at h
    rw [Bool.and_eq_true, Bool.and_eq_true] at h
    show (D.closed n v && closedL n (r.map (·.2))) = true
    rw [h.1.2, closedK_snd h.2]
    rfl
mutual
theorem DV.shrink {v : V} {d : D} : D.closed α.length d = true → DV K mg F (α ++ β) v d → DV K mg F α v d
  | _, .non => .non
  | _, .bl b => .bl b
  | _, .int i => .int i
  | _, .str x => .str x
  | h, .tup a t => .tup a (DVs.shrink (by simpa [D.closed] using h) t)
  | h, .lst a t => .lst a (DVs.shrink (by simpa [D.closed] using h) t)
  | h, .dct a e1 e2 k t => .dct a e1 e2 k (DVs.shrink (closedK_snd (by simpa [D.closed] using h)) t)
  | h, .ptr e => by
    rename_i k a
    have hk : k < α.length := by simpa [D.closed] using h
    rw [List.getElem?_append_left hk] at e
    exact .ptr e
  | _, .fn e => .fn e
  | _, .ty n => .ty n
theorem DVs.shrink {vs : List V} {ds : List D} : closedL α.length ds = true → DVs K mg F (α ++ β) vs ds → DVs K mg F α vs ds
  | _, .nil => .nil
  | h, .cons a t => by
    unfold closedL at h
    rw [Bool.and_eq_true] at h
    exact .cons (DV.shrink h.1 a) (DVs.shrink h.2 t)
end
theorem closedL_get {n : Nat} : ∀ {ds : List D} {k : Nat} {d : D}, closedL n ds = true → ds[k]? = some d → D.closed n d = true
  | [], _, _, _, e => by simp at e
  | d :: r, 0, _, h, e => by
    unfold closedL at h
    rw [Bool.and_eq_true] at h
    simp at e; subst e
    exact h.1
  | d :: r, k + 1, _, h, e => by
    unfold closedL at h
    rw [Bool.and_eq_true] at h
    exact closedL_get (k := k) h.2 (by simpa using e)
theorem Rel.trunc (r : Rel K mg (α ++ β) F H S) (h : closedL α.length (S.take α.length) = true) : Rel K mg α F H (S.take α.length) := by
  have hl := r.len
  rw [List.length_append] at hl
  refine ⟨r.sub, by rw [List.length_take]; omega, (List.nodup_append.mp r.nd).1, fun a ha => r.here a (List.mem_append_left _ ha), fun k a d h1 h2 => ?_⟩
  have hk : k < α.length := (List.getElem?_eq_some_iff.mp h1).1
  have hc := closedL_get h h2
  rw [List.getElem?_take, if_pos hk] at h2
  obtain ⟨o, q⟩ := r.own k a d (by rw [List.getElem?_append_left hk]; exact h1) h2
  refine ⟨?_, q⟩
  cases d with
  | lst ds => obtain ⟨xs, e1, e2⟩ := o; exact ⟨xs, e1, e2.shrink (by simpa [D.closed] using hc)⟩
  | dct kvs => obtain ⟨ws, e1, e2, e3⟩ := o; exact ⟨ws, e1, e2, e3.shrink (closedK_snd (by simpa [D.closed] using hc))⟩
  | non => trivial
  | _ => exact o.elim
theorem Rel.give {k : Nat} {a : Addr} {u : D} (r : Rel K mg (α ++ β) F H S) (hc : closedL α.length (S.take α.length) = true) (ha : (α ++ β)[k]? = some a) (hk : α.length ≤ k) (hu : S[k]? = some u) (ho : u.owned = true) (hd : D.closed α.length u = true) : a ∈ β ∧ Rel K mg (α ++ [a]) F H (S.take α.length ++ [u]) := by
  have r0 := Rel.trunc r hc
  have hb : a ∈ β := by
    rw [List.getElem?_append_right hk] at ha
    exact List.mem_of_getElem? ha
  have hn : a ∉ α := fun h => (List.nodup_append.mp r.nd).2.2 a h a hb rfl
  have hz : u ≠ .non := by intro z; subst z; cases ho
  obtain ⟨o1, o2⟩ := r.own k a u ha hu
  refine ⟨hb, r0.adopt hn (o2 hz) ?_ hz⟩
  cases u with
  | lst ds => obtain ⟨xs, e1, e2⟩ := o1; exact ⟨xs, e1, e2.shrink (by simpa [D.closed] using hd)⟩
  | dct kvs => obtain ⟨ws, e1, e2, e3⟩ := o1; exact ⟨ws, e1, e2, e3.shrink (closedK_snd (by simpa [D.closed] using hd))⟩
  | _ => cases ho
theorem Stp.one {F' H' : Hp} {a : Addr} (s : Stp α F H β F' H') (h : a ∈ β) : Stp α F H [a] F' H' := ⟨fun b hb => by rw [List.mem_singleton.mp hb]; exact s.new a h, s.sub, s.frame, s.live, s.fnew⟩
theorem Stp.drop {F' H' : Hp} (s : Stp α F H β F' H') : Stp α F H [] F' H' := ⟨(fun _ h => nomatch h), s.sub, s.frame, s.live, s.fnew⟩
theorem slots_start {N : List Str} {vs : List V} {ds : List D} (hv : DVs K mg F α vs ds) : Slots K mg F α (L2.start N vs) (ds.map some ++ List.replicate (N.length - ds.length) none) := by
  have hl := hv.length
  refine ⟨by unfold L2.start; simp [hl], fun i d e => ?_⟩
  unfold L2.start
  by_cases h : i < ds.length
  · rw [List.getElem?_append_left (by simpa using h), List.getElem?_map] at e
    obtain ⟨d', e1⟩ : ∃ d', ds[i]? = some d' := ⟨_, List.getElem?_eq_getElem h⟩
    rw [e1] at e
    have : d' = d := by simpa using e
    subst this
    obtain ⟨v, e2, e3⟩ := hv.get e1
    refine ⟨v, ?_, e3⟩
    rw [List.getElem?_append_left (by rw [List.length_map, hl]; exact h), List.getElem?_map, e2] <;> rfl
  · rw [List.getElem?_append_right (by simpa using h), List.getElem?_replicate] at e
    split at e <;> cases e
theorem fn_G {P : Program} {w : World} {base : Heap} {x qual : Str} {st : Stmt} {f : Addr} {fd : FuncData} {N ps : List Str} {k : Nat} {sp : Sp} (Fu : Fun K x qual st f fd) (Sc : FnScope N ps (defScope st)) (len : ∀ vs H Q E, sp vs H Q E → vs.length = ps.length)
    (hbody : ∀ (cdv : Value) (A : Around) (outer : List Env) (s : Shared) (H : Hp) (vs : List V) (Q : VK) (E : XK), Room k (A.deeper (envOfC qual (defScope st) s.heap.objs.size f cdv)) → A.guards = some [] → sp vs H Q E →
      ∃ t, PSs (cxOf (L2.CX P w) P w K mg base N qual (defScope st) f cdv A outer s H E) (defBody st) t ∧ t ⟨fun _ H' => Q .non H', Q, fun _ _ => False, fun _ _ => False⟩ (L2.start N vs) H) : FnG P w K mg base (k + 1) f fd ps sp := by
  obtain ⟨oc, od, kV, doc, pm, an, cdv, ct, osl, rfl, lk, hcd⟩ := Fu.ex
  refine ⟨len, fun A outer s H args us vs Q E room hG e0 hb rv hsp => ?_⟩
  have kin : K.In s.heap := e0.mod.kin.keeps fun b o e => (e0.bs b o e).1
  have names : ∀ y ∈ ps.zip us, (defScope st).names.lookup y.1 = some .local ∨ ((defScope st).names.lookup y.1 = some .cell ∧ ((cellsFrom (s.heap.objs.size + 1) (defScope st).names []).lookup y.1).isSome = true) := fun y hy =>
    (Sc.par y.1 (List.of_mem_zip hy).1).imp id fun q => ⟨q, PySem.W.cellsFrom_some _ _ _ (.inl q)⟩
  refine codeAny_call_function room.depth (kin _ _ lk) rfl Sc.co Sc.gen rfl (PySem.W.codeRec_of kin hcd) (hb _ _ _ _ (wpAny_newFunctionEnv_cells Sc.kind names fun env he s1 x => ?_))
  subst he
  refine ⟨(e0.mod.nolimit.keeps fun b o e => (e0.bs b o e).1).keeps x.toInCall.keep, codeAny_func ?_⟩
  obtain ⟨t, ht, hq⟩ := hbody cdv A outer s H vs Q E (room.deeper _) hG hsp
  refine wpAny_mono (ht.run [] s1 (L2.start N vs) H _ (inv_start Sc room.hd e0 (len _ _ _ _ hsp) rv x) hq) ?_ fun _ _ hs => hs
  intro fl s' hs
  cases fl with
  | ret u =>
    obtain ⟨v, _, H', J, r, q⟩ := hs
    exact ⟨v, H', J.os, J.bare, J.base, J.hok, r, q⟩
  | next =>
    obtain ⟨_, H', J, q⟩ := hs
    exact ⟨V.non, H', J.os, J.bare, J.base, J.hok, rfl, q⟩
  | brk => obtain ⟨_, _, _, q⟩ := hs; exact q.elim
  | cont => obtain ⟨_, _, _, q⟩ := hs; exact q.elim
theorem fn_okD {P : Program} {w : World} {base : Heap} {x qual : Str} {st : Stmt} {f : Addr} {fd : FuncData} {N ps : List Str} {k : Nat} {r : RS} (Fu : Fun K x qual st f fd) (Sc : FnScope N ps (defScope st))
    (hbody : ∀ (cdv : Value) (A : Around) (outer : List Env) (s : Shared) (H : Hp) (E : XK), Room k (A.deeper (envOfC qual (defScope st) s.heap.objs.size f cdv)) → A.guards = some [] → PSds (cxOf (L2.CX P w) P w K mg base N qual (defScope st) f cdv A outer s H E) (fun cls d _ H => E cls d H) (defBody st) r) :
    FnG P w K mg base (k + 1) f fd ps (spD K mg ps.length (mDef N.length r)) := by
  refine fn_G Fu Sc (fun vs H Q E h => h.1) fun cdv A outer s H vs Q E hr hG h => ?_
  obtain ⟨hl, α, F, S, ds, h1, h2, h3⟩ := h
  obtain ⟨t, pt, st⟩ := (hbody cdv A outer s H E hr hG).ex
  refine ⟨t, pt, st α F _ H _ S _ h1 (slots_start h2) ?_⟩
  have h3 : wp K mg α F H (relD K mg) (mDef N.length r ds S) Q E := h3
  have hl : α.length = S.length := h1.len
  unfold mDef at h3
  rw [← hl] at h3
  have an : α ++ [] = α := List.append_nil α
  cases q : r (ds.map some ++ List.replicate (N.length - ds.length) none) S with
  | nx δ S1 =>
    rw [q] at h3
    dsimp only at h3
    split at h3
    · rename_i hc
      intro σ' H' β F' r1 s1 _
      exact h3 .non H' [] F' (by rw [an]; exact Rel.trunc r1 hc) s1.drop .non
    · exact h3.elim
  | rt d S1 =>
    rw [q] at h3
    dsimp only at h3
    split at h3
    · rename_i hc
      rw [Bool.and_eq_true] at hc
      intro v H' β F' r1 s1 hv
      exact h3 v H' [] F' (by rw [an]; exact Rel.trunc r1 hc.2) s1.drop (by rw [an]; exact DV.shrink hc.1 hv)
    · unfold giveD at h3
      cases d with
      | ptr k =>
        dsimp only at h3
        cases q2 : S1[k]? with
        | none => rw [q2] at h3; exact h3.elim
        | some u =>
          rw [q2] at h3
          dsimp only at h3
          split at h3
          · rename_i hc
            rw [Bool.and_eq_true, Bool.and_eq_true, Bool.and_eq_true, decide_eq_true_eq] at hc
            intro v H' β F' r1 s1 hv
            cases hv with
            | ptr ea =>
              rename_i a
              obtain ⟨g1, g2⟩ := Rel.give r1 hc.2 ea hc.1.2 q2 hc.1.1.1 hc.1.1.2
              exact h3 (.ref a) H' [a] F' g2 (s1.one g1) (.ptr (by rw [List.getElem?_append_right (Nat.le_refl _), Nat.sub_self]; rfl))
          · exact h3.elim
      | _ => exact h3.elim
  | err c fs δ S1 =>
    rw [q] at h3
    dsimp only at h3
    split at h3
    · rename_i hc
      rw [Bool.and_eq_true] at hc
      intro cls dd σ' H' β F' r1 s1 _ he
      refine h3 cls dd H' [] F' (by rw [an]; exact Rel.trunc r1 hc.2) s1.drop ?_
      rw [an]
      refine ⟨he.1, he.2.imp id fun ⟨d, xs, e1, e2, e3, e4⟩ => ⟨d, xs, e1, e2, e3, DVs.shrink hc.1 e4⟩⟩
    · exact h3.elim
  | bk δ S1 => rw [q] at h3; exact h3.elim
  | ct δ S1 => rw [q] at h3; exact h3.elim
  | stuck => rw [q] at h3; exact h3.elim

/-! ### ghost steps -/
theorem psds_freeze {sts : List Stmt} {i : Nat} {r : RS} (h : PSds X W sts r) : PSds X W sts (sSeq (sFreeze i) r) := by
  obtain ⟨t, pt, st⟩ := h.ex
  refine ⟨t, pt, fun α F σ H δ S E hr hs h => ?_⟩
  unfold sSeq sFreeze at h
  cases q : δ[i]? with
  | none => rw [q] at h; exact h.elim
  | some o =>
    rw [q] at h
    cases o with
    | none => exact h.elim
    | some d =>
      cases d with
      | ptr k =>
        cases q2 : S[k]? with
        | none => simp only [q2] at h; exact h.elim
        | some u =>
          cases u with
          | lst ds =>
            simp only [q2] at h
            obtain ⟨v, e1, e2⟩ := hs.2 i _ q
            cases e2 with
            | ptr ea =>
              rename_i a
              obtain ⟨o1, o2⟩ := hr.own k a _ ea q2
              obtain ⟨xs, o3, o4⟩ := o1
              have hf := o2 (by intro z; cases z)
              have sb : Sub F (upd F a (.lst xs)) := Sub.new hf
              have an : α ++ [] = α := List.append_nil α
              have st1 : Stp α F H [] (upd F a (.lst xs)) H := ⟨(fun _ h => nomatch h), sb, fun _ _ _ h => h, fun _ h => h, fun b h1 h2 _ => by
                have z : b ≠ a := fun z => h1 (z ▸ List.mem_of_getElem? ea)
                rw [upd_ne z]; exact h2⟩
              have rl : Rel X.K X.mg α (upd F a (.lst xs)) H (S.set k .non) := by
                refine ⟨fun b u e => ?_, by rw [List.length_set]; exact hr.len, hr.nd, hr.here, fun j b u g1 g2 => ?_⟩
                · by_cases z : b = a
                  · subst z; rw [upd_same] at e; rw [o3]; exact e
                  · rw [upd_ne z] at e; exact hr.sub _ _ e
                · by_cases z : j = k
                  · subst z
                    rw [List.getElem?_set_self (List.getElem?_eq_some_iff.mp q2).1] at g2
                    cases g2
                    exact ⟨trivial, fun z => absurd rfl z⟩
                  · rw [List.getElem?_set_ne (Ne.symm z)] at g2
                    obtain ⟨h3, h4⟩ := hr.own j b u g1 g2
                    have y : b ≠ a := fun y => by
                      subst y
                      exact z ((List.getElem_inj hr.nd).mp ((List.getElem?_eq_some_iff.mp g1).2.trans (List.getElem?_eq_some_iff.mp ea).2.symm))
                    have h5 : Own X.K X.mg (upd F a (.lst xs)) (α ++ []) H b u := h3.mono sb rfl
                    rw [an] at h5
                    exact ⟨h5, fun hd => by rw [upd_ne y]; exact h4 hd⟩
              have hs1 : Slots X.K X.mg (upd F a (.lst xs)) α σ δ := by have := hs.mono (β := []) sb; rw [an] at this; exact this
              have hs2 : Slots X.K X.mg (upd F a (.lst xs)) α σ (δ.set i (some (.lst ds))) := by
                refine ⟨by rw [List.length_set]; exact hs1.1, fun j d g => ?_⟩
                by_cases z : j = i
                · subst z
                  rw [List.getElem?_set_self (List.getElem?_eq_some_iff.mp q).1] at g
                  cases g
                  exact ⟨_, e1, .lst (.inl (Rd.of upd_same)) (by have := o4.mono (β := []) sb; rw [an] at this; exact this)⟩
                · rw [List.getElem?_set_ne (Ne.symm z)] at g
                  exact hs1.2 j d g
              have h2 := wpS.step st1 h
              rw [an] at h2
              exact st α _ σ H _ _ E rl hs2 h2
          | _ => simp only [q2] at h; exact h.elim
      | _ => exact h.elim
end
end DL

set_option Elab.async false
set_option linter.all false
set_option maxRecDepth 100000
set_option maxHeartbeats 4000000
set_option autoImplicit false
/-! Data layer, seventh part: operators on data. -/
namespace DL
open PySem PySem.Spec PyProof.Rows L2

/-! ### what they come to -/
def gAdd : Sto → D → D → Option D := fun S d e => match deref S d, deref S e with
  | .int i, .int j => some (.int (i + j))
  | .str x, .str y => if x.length + y.length ≤ sizeLine then some (.str (x ++ y)) else none
  | .tup xs, .tup ys => if xs.length + ys.length ≤ sizeLine then some (.tup (xs ++ ys)) else none
  | _, _ => none
def gCat : Sto → D → D → Option D := fun S d e => match deref S d, deref S e with
  | .lst xs, .lst ys => if xs.length + ys.length ≤ sizeLine then some (.lst (xs ++ ys)) else none
  | _, _ => none
def gSub : Sto → D → D → Option D := fun _ d e => match d, e with
  | .int i, .int j => some (.int (i - j))
  | _, _ => none
/-- the sizes of two factors -/
def mulFits (i j : Int) : Bool := decide (i.natAbs.log2 + j.natAbs.log2 < 1000000)
def gMul : Sto → D → D → Option D := fun _ d e => match d, e with
  | .int i, .int j => if mulFits i j then some (.int (i * j)) else none
  | _, _ => none
def gRep : Sto → D → D → Option D := fun S d e => match deref S d, e with
  | .lst xs, .int k => if -(2 ^ 63) ≤ k ∧ k < 2 ^ 63 ∧ xs.length * k.toNat ≤ sizeLine then some (.lst (List.replicate k.toNat xs).flatten) else none
  | _, _ => none
def gDiv : Sto → D → D → Option D := fun _ d e => match d, e with
  | .int i, .int j => if j ≠ 0 ∧ j.natAbs.log2 < 9000 then some (.int (i.fdiv j)) else none
  | _, _ => none
def gMod : Sto → D → D → Option D := fun _ d e => match d, e with
  | .int i, .int j => if j ≠ 0 then some (.int (i.fmod j)) else none
  | _, _ => none
def gPow : Sto → D → D → Option D := fun _ d e => match d, e with
  | .int i, .int j => if 0 ≤ j ∧ j ≤ 1000000 ∧ i.natAbs < 2 ^ 64 then some (.int (i ^ j.toNat)) else none
  | _, _ => none
def gNeg : Sto → D → Option D := fun _ d => match d with
  | .int i => some (.int (-i))
  | _ => none
def gLt : Sto → D → D → Option D := fun _ d e => match d, e with
  | .int i, .int j => some (.bl (decide (i < j)))
  | _, _ => none
def gLe : Sto → D → D → Option D := fun _ d e => match d, e with
  | .int i, .int j => some (.bl (decide (i ≤ j)))
  | _, _ => none
def gGt : Sto → D → D → Option D := fun _ d e => match d, e with
  | .int i, .int j => some (.bl (decide (j < i)))
  | _, _ => none
def gGe : Sto → D → D → Option D := fun _ d e => match d, e with
  | .int i, .int j => some (.bl (decide (j ≤ i)))
  | _, _ => none
mutual
/-- as the model's data -/
def toPy (S : Sto) : D → Option PyData
  | .non => some .none
  | .bl b => some (.bool b)
  | .int i => some (.int i)
  | .str x => some (.str x)
  | .tup xs => (toPys S xs).map .tuple
  | .lst xs => (toPys S xs).map .list
  | _ => none
def toPys (S : Sto) : List D → Option (List PyData)
  | [] => some []
  | d :: r => match toPy S d, toPys S r with
    | some x, some xs => some (x :: xs)
    | _, _ => none
end
def eqD (S : Sto) (d e : D) : Option Bool := match toPy S (deref S d), toPy S (deref S e) with
  | some x, some y => if SeqAt.shaped x && SeqAt.shaped y then some (PyData.eqv x y) else none
  | _, _ => none
def gEq : Sto → D → D → Option D := fun S d e => (eqD S d e).map .bl
def gNe : Sto → D → D → Option D := fun S d e => (eqD S d e).map fun b => .bl (!b)
def gIs : Sto → D → D → Option D := fun _ d e => match e with
  | .non => (match d with
    | .non => some (.bl true)
    | .ptr _ => some (.bl false)
    | _ => some (.bl false))
  | .bl b => (match d with
    | .bl a => some (.bl (decide (a = b)))
    | _ => none)
  | _ => none
def gIsN : Sto → D → D → Option D := fun S d e => match gIs S d e with
  | some (.bl b) => some (.bl (!b))
  | _ => none

section
variable {X : Cx} {W : WX} {a b c e : Expr} {es rest : List Expr} {ra rb rc : RE} {ba bb : RB} {rs : RA} {pos p : Pos} {K : Fg} {mg : Str → Option Value} {α β : List Addr} {F F1 H H1 : Hp} {S : Sto}
theorem fmatch {x : D} {i : Int} (h : x = .int i) {v : V} (hv : DV K mg F α v x) : v = .int i := by subst h; cases hv; rfl
/-- two ints by a rule -/
theorem opg_int {f : Value → Value → Sem Value} {C : Int → Int → Prop} {h : Int → Int → Int} {g : Sto → D → D → Option D} (ho : OpR X f (rI C fun i j => .int (h i j)))
    (hg : ∀ S d e z, g S d e = some z → ∃ i j, d = .int i ∧ e = .int j ∧ C i j ∧ z = .int (h i j)) : OpG X f g := by
  refine ⟨_, ho, fun α F H S x y d e z Q hr hx hy hz q => ?_⟩
  obtain ⟨i, j, rfl, rfl, hc, rfl⟩ := hg S d e z hz
  cases hx; cases hy
  have an : α ++ [] = α := List.append_nil α
  exact ⟨i, j, rfl, rfl, hc, q _ H [] F (by rw [an]; exact hr) Stp.refl (.int _)⟩
theorem opg_cmp {f : Value → Value → Sem Value} {h : Int → Int → Bool} {g : Sto → D → D → Option D} (ho : OpR X f (rI0 fun i j => .bl (h i j)))
    (hg : ∀ S d e z, g S d e = some z → ∃ i j, d = .int i ∧ e = .int j ∧ z = .bl (h i j)) : OpG X f g := by
  refine ⟨_, ho, fun α F H S x y d e z Q hr hx hy hz q => ?_⟩
  obtain ⟨i, j, rfl, rfl, rfl⟩ := hg S d e z hz
  cases hx; cases hy
  have an : α ++ [] = α := List.append_nil α
  exact ⟨i, j, rfl, rfl, q _ H [] F (by rw [an]; exact hr) Stp.refl (.bl _)⟩
theorem g_sub : OpG X (binaryOp .Sub) gSub := by
  refine ⟨_, op_sub, fun α F H S x y d e z Q hr hx hy hz q => ?_⟩
  unfold gSub at hz
  split at hz
  · cases hz; cases hx; cases hy
    have an : α ++ [] = α := List.append_nil α
    exact ⟨_, _, rfl, rfl, q _ H [] F (by rw [an]; exact hr) Stp.refl (.int _)⟩
  · cases hz
theorem g_mul : OpG X (binaryOp .Mult) gMul := opg_int op_mulW fun S d e z h => by
  unfold gMul at h
  split at h
  · split at h
    · rename_i q
      cases h
      exact ⟨_, _, rfl, rfl, show _ < _ from of_decide_eq_true q, rfl⟩
    · cases h
  · cases h
theorem op_fdivA : OpR X (binaryOp .FloorDiv) (rI (fun _ j => j ≠ 0 ∧ j.natAbs.log2 < 9000) fun i j => .int (i.fdiv j)) := opI fun i j _ _ _ _ _ hc q => floordiv_int hc.1 q (.inl (PyProof.noPylong_of_log2 hc.2))
theorem g_div : OpG X (binaryOp .FloorDiv) gDiv := opg_int op_fdivA fun S d e z h => by
  unfold gDiv at h
  split at h
  · split at h
    · rename_i q
      cases h
      exact ⟨_, _, rfl, rfl, q, rfl⟩
    · cases h
  · cases h
theorem g_mod : OpG X (binaryOp .Mod) gMod := opg_int op_modN fun S d e z h => by
  unfold gMod at h
  split at h
  · split at h
    · rename_i q
      cases h
      exact ⟨_, _, rfl, rfl, q, rfl⟩
    · cases h
  · cases h
theorem g_pow : OpG X (binaryOp .Pow) gPow := by
  refine ⟨_, op_pow, fun α F H S x y d e z Q hr hx hy hz q => ?_⟩
  unfold gPow at hz
  split at hz
  · split at hz
    · rename_i hc
      cases hz; cases hx; cases hy
      have an : α ++ [] = α := List.append_nil α
      exact ⟨_, _, rfl, rfl, hc, q _ H [] F (by rw [an]; exact hr) Stp.refl (.int _)⟩
    · cases hz
  · cases hz
theorem g_lt : OpG X (compareOp .Lt) gLt := opg_cmp op_lt fun S d e z h => by
  unfold gLt at h
  split at h
  · cases h; exact ⟨_, _, rfl, rfl, rfl⟩
  · cases h
theorem g_le : OpG X (compareOp .LtE) gLe := opg_cmp op_le fun S d e z h => by
  unfold gLe at h
  split at h
  · cases h; exact ⟨_, _, rfl, rfl, rfl⟩
  · cases h
theorem g_gt : OpG X (compareOp .Gt) gGt := opg_cmp op_gt fun S d e z h => by
  unfold gGt at h
  split at h
  · cases h; exact ⟨_, _, rfl, rfl, rfl⟩
  · cases h
theorem g_ge : OpG X (compareOp .GtE) gGe := opg_cmp op_ge fun S d e z h => by
  unfold gGe at h
  split at h
  · cases h; exact ⟨_, _, rfl, rfl, rfl⟩
  · cases h
theorem u_neg : OkU X (rU fun i => .int (-i)) gNeg := by
  intro α F H S x d z Q hr hx hz q
  unfold gNeg at hz
  split at hz
  · cases hz; cases hx
    have an : α ++ [] = α := List.append_nil α
    exact ⟨_, rfl, q _ H [] F (by rw [an]; exact hr) Stp.refl (.int _)⟩
  · cases hz
theorem pd_neg (ha : PD X W a ra) : PD X W (.UnaryOp .USub a pos) (rUn gNeg ra) := pd_un un_neg u_neg ha
/-! ### ==, != -/
mutual
theorem DV.dp {v : V} : ∀ {d : D} {x : PyData}, DV K mg F α v d → toPy S d = some x → Sub F H → Dp K H v x
  | _, _, .non, e, _ => by cases e; exact .non
  | _, _, .bl b, e, _ => by cases e; exact .bl b
  | _, _, .int i, e, _ => by cases e; exact .int i
  | _, _, .str y, e, _ => by cases e; exact .str y
  | _, _, .tup h t, e, s => by
    rename_i ds
    unfold toPy at e
    cases q : toPys S ds with
    | none => rw [q] at e; cases e
    | some ys => rw [q] at e; cases e; exact .tup (s.sqT h) (DVs.dp t q s)
  | _, _, .lst h t, e, s => by
    rename_i ds
    unfold toPy at e
    cases q : toPys S ds with
    | none => rw [q] at e; cases e
    | some ys => rw [q] at e; cases e; exact .lst (s.sqL h) (DVs.dp t q s)
  | _, _, .dct _ _ _ _ _, e, _ => by cases e
  | _, _, .ptr _, e, _ => by cases e
  | _, _, .fn _, e, _ => by cases e
  | _, _, .ty _, e, _ => by cases e
theorem DVs.dp {vs : List V} : ∀ {ds : List D} {xs : List PyData}, DVs K mg F α vs ds → toPys S ds = some xs → Sub F H → DpAll K H vs xs
  | _, _, .nil, e, _ => by cases e; exact .nil
  | _, _, .cons h t, e, s => by
    rename_i d _ ds
    unfold toPys at e
    cases q1 : toPy S d with
    | none => rw [q1] at e; cases e
    | some x =>
      cases q2 : toPys S ds with
      | none => rw [q1, q2] at e; cases e
      | some xs => rw [q1, q2] at e; cases e; exact .cons (DV.dp h q1 s) (DVs.dp t q2 s)
end
theorem Rel.dp (hr : Rel K mg α F H S) {v : V} {d : D} {x : PyData} (h : DV K mg F α v d) (e : toPy S (deref S d) = some x) : Dp K H v x := by
  have s := hr.see h
  generalize deref S d = dd at e s
  cases s with
  | «at» h _ => exact h.dp e hr.sub
  | dead => cases e
  | lst q t =>
    rename_i ds
    unfold toPy at e
    cases q2 : toPys S ds with
    | none => rw [q2] at e; cases e
    | some ys => rw [q2] at e; cases e; exact .lst (SqL.of q) (t.dp q2 hr.sub)
  | dct _ _ _ => cases e
theorem Rel.eqD (hr : Rel K mg α F H S) {v u : V} {d e : D} {k : Bool} (h1 : DV K mg F α v d) (h2 : DV K mg F α u e) (q : DL.eqD S d e = some k) : ∃ x y, Dp K H v x ∧ Dp K H u y ∧ SeqAt.shaped x = true ∧ SeqAt.shaped y = true ∧ k = PyData.eqv x y := by
  unfold DL.eqD at q
  split at q
  · rename_i x y e1 e2
    split at q
    · rename_i hc
      rw [Bool.and_eq_true] at hc
      cases q
      exact ⟨x, y, hr.dp h1 e1, hr.dp h2 e2, hc.1, hc.2, rfl⟩
    · cases q
  · cases q
theorem g_eq (hu : X.A.units + 64 < cLine) : OpG X (compareOp .Eq) gEq := by
  refine ⟨_, op_eqD hu, fun α F H S x y d e z Q hr hx hy hz q => ?_⟩
  unfold gEq at hz
  cases q1 : DL.eqD S d e with
  | none => rw [q1] at hz; cases hz
  | some k =>
    rw [q1] at hz; cases hz
    obtain ⟨x', y', a1, a2, a3, a4, rfl⟩ := hr.eqD hx hy q1
    have an : α ++ [] = α := List.append_nil α
    exact ⟨x', y', a1, a2, a3, a4, q _ H [] F (by rw [an]; exact hr) Stp.refl (.bl _)⟩
theorem g_ne (hu : X.A.units + 64 < cLine) : OpG X (compareOp .NotEq) gNe := by
  refine ⟨_, op_neD hu, fun α F H S x y d e z Q hr hx hy hz q => ?_⟩
  unfold gNe at hz
  cases q1 : DL.eqD S d e with
  | none => rw [q1] at hz; cases hz
  | some k =>
    rw [q1] at hz; cases hz
    obtain ⟨x', y', a1, a2, a3, a4, rfl⟩ := hr.eqD hx hy q1
    have an : α ++ [] = α := List.append_nil α
    exact ⟨x', y', a1, a2, a3, a4, q _ H [] F (by rw [an]; exact hr) Stp.refl (.bl _)⟩
/-! ### is -/
theorem g_is : OpG X (compareOp .Is) gIs := by
  refine ⟨_, op_isN.or op_isBl, fun α F H S x y d e z Q hr hx hy hz q => ?_⟩
  have an : α ++ [] = α := List.append_nil α
  have fin : ∀ k, z = .bl k → Q (.bl k) H := fun k ek => by subst ek; exact q _ H [] F (by rw [an]; exact hr) Stp.refl (.bl _)
  unfold gIs at hz
  split at hz
  · cases hy
    refine .inl ⟨rfl, fin _ ?_⟩
    cases hx <;> cases hz <;> rfl
  · cases hy
    split at hz
    · cases hx
      cases hz
      exact .inr ⟨_, _, rfl, rfl, fin _ rfl⟩
    · cases hz
  · cases hz
theorem g_isN : OpG X (compareOp .IsNot) gIsN := by
  refine ⟨_, op_notN.or op_notBl, fun α F H S x y d e z Q hr hx hy hz q => ?_⟩
  have an : α ++ [] = α := List.append_nil α
  have fin : ∀ k, z = .bl k → Q (.bl k) H := fun k ek => by subst ek; exact q _ H [] F (by rw [an]; exact hr) Stp.refl (.bl _)
  unfold gIsN at hz
  split at hz
  · rename_i k q1
    cases hz
    unfold gIs at q1
    split at q1
    · cases hy
      refine .inl ⟨rfl, fin _ ?_⟩
      cases hx <;> cases q1 <;> rfl
    · cases hy
      split at q1
      · cases hx
        cases q1
        exact .inr ⟨_, _, rfl, rfl, fin _ rfl⟩
      · cases q1
    · cases q1
  · cases hz
end
end DL

set_option Elab.async false
set_option linter.all false
set_option maxRecDepth 100000
set_option maxHeartbeats 4000000
set_option autoImplicit false
/-! Data layer, eighth part: built-in functions, methods of texts, items, slices. -/
namespace DL
open PySem PySem.Spec PyProof.Rows L2

def tyName (S : Sto) (d : D) : Option String := match deref S d with
  | .non => some "NoneType"
  | .bl _ => some "bool"
  | .int _ => some "int"
  | .str _ => some "str"
  | .tup _ => some "tuple"
  | .lst _ => some "list"
  | .dct _ => some "dict"
  | _ => none
def gIsi : Sto → List D → Option D := fun S ds => match ds with
  | [d, .ty T] => (tyName S d).bind fun t => (kitB t T).map .bl
  | _ => none
def gLen : Sto → List D → Option D := fun S ds => match ds with
  | [d] => (match deref S d with
    | .str y => if y.length ≤ sizeLine then some (.int y.length) else none
    | .tup xs => some (.int xs.length)
    | .lst xs => some (.int xs.length)
    | _ => none)
  | _ => none
def gAbs : Sto → List D → Option D := fun _ ds => match ds with
  | [.int i] => some (.int (if i < 0 then -i else i))
  | _ => none
def gInt : Sto → List D → Option D := fun _ ds => match ds with
  | [.int i] => some (.int i)
  | [.bl k] => some (.int (if k then 1 else 0))
  | [.str a] => (match intText? a with
    | some n => if a.length ≤ 640 then some (.int n) else none
    | none => none)
  | _ => none
def gStr : Sto → List D → Option D := fun _ ds => match ds with
  | [.int i] => if i.natAbs.log2 < 1920 then some (.str (toString i)) else none
  | [.str a] => some (.str a)
  | _ => none
def asBls : List D → Option (List Bool)
  | [] => some []
  | .bl b :: r => (asBls r).map (b :: ·)
  | _ => none
def asInts : List D → Option (List Int)
  | [] => some []
  | .int b :: r => (asInts r).map (b :: ·)
  | _ => none
def asStrs : List D → Option (List Str)
  | [] => some []
  | .str b :: r => (asStrs r).map (b :: ·)
  | _ => none
def gAll : Sto → List D → Option D := fun S ds => match ds with
  | [d] => (match deref S d with
    | .lst xs => (asBls xs).map fun bs => .bl (bs.all id)
    | _ => none)
  | _ => none
def gAny : Sto → List D → Option D := fun S ds => match ds with
  | [d] => (match deref S d with
    | .lst xs => (asBls xs).map fun bs => .bl (bs.any id)
    | _ => none)
  | _ => none
def gSum : Sto → List D → Option D := fun S ds => match ds with
  | [d] => (match deref S d with
    | .lst xs => (asInts xs).map fun bs => .int bs.sum
    | _ => none)
  | _ => none
def toPyR (S : Sto) : D → Option PyData
  | .ptr k => (match S.getD k .non with
    | .dct [] => some (.dict [])
    | _ => toPy S (deref S (.ptr k)))
  | d => toPy S d
def gRepr : Sto → List D → Option D := fun S ds => match ds with
  | [d] => (match toPyR S d with
    | some x => if x.showable && decide (x.depth ≤ 64) && decide (x.shown.length ≤ sizeLine) then some (.str x.shown) else none
    | none => none)
  | _ => none

section
variable {X : Cx} {W : WX} {a b c e : Expr} {es rest : List Expr} {ra rb rc : RE} {ba bb : RB} {rs : RA} {pos p : Pos} {K : Fg} {mg : Str → Option Value} {α β : List Addr} {F F1 H H1 : Hp} {S : Sto}
theorem asBls_eq : ∀ {xs : List D} {bs : List Bool}, asBls xs = some bs → xs = bs.map .bl
  | [], _, h => by cases h; rfl
  | .bl b :: r, _, h => by
    unfold asBls at h
    cases q : asBls r with
    | none => rw [q] at h; cases h
    | some ys => rw [q] at h; cases h; rw [asBls_eq q]; rfl
theorem asInts_eq : ∀ {xs : List D} {bs : List Int}, asInts xs = some bs → xs = bs.map .int
  | [], _, h => by cases h; rfl
  | .int b :: r, _, h => by
    unfold asInts at h
    cases q : asInts r with
    | none => rw [q] at h; cases h
    | some ys => rw [q] at h; cases h; rw [asInts_eq q]; rfl
theorem asStrs_eq : ∀ {xs : List D} {bs : List Str}, asStrs xs = some bs → xs = bs.map .str
  | [], _, h => by cases h; rfl
  | .str b :: r, _, h => by
    unfold asStrs at h
    cases q : asStrs r with
    | none => rw [q] at h; cases h
    | some ys => rw [q] at h; cases h; rw [asStrs_eq q]; rfl
/-- the end of a rule that changes nothing -/
theorem fin_now {v : V} {z : D} {Q : VK} (hr : Rel K mg α F H S) (hv : DV K mg F α v z) (q : ∀ v H' β F', Rel K mg (α ++ β) F' H' S → Stp α F H β F' H' → DV K mg F' (α ++ β) v z → Q v H') : Q v H := by
  have an : α ++ [] = α := List.append_nil α
  exact q v H [] F (by rw [an]; exact hr) Stp.refl (by rw [an]; exact hv)
theorem pd_ty {x : Str} {n : String} (hm : X.mg x = none) (hg : Gl X x := by rfl) (hv : bootBuiltins x = some (.type n) := by decide +kernel) (hn : x ≠ "__name__" := by decide) (hd : (x == ("__debug__" : Str)) = false := by decide) : PD X W (.Name x pos) (rC (.ty n)) :=
  pd_c (v := .ty n) (pe_bltn hg hm hv rfl hn hd) fun _ _ => .ty n
theorem Rel.tyX (hr : Rel K mg α F H S) {v : V} {d : D} {t : String} (h : DV K mg F α v d) (e : tyName S d = some t) : TyX K H v (.type t) := by
  have s := hr.see h
  unfold tyName at e
  generalize deref S d = dd at e s
  cases s with
  | «at» h hp =>
    cases h with
    | non => cases e; exact .base .non
    | bl b => cases e; exact .base (.bl b)
    | int i => cases e; exact .base (.int i)
    | str x => cases e; exact .base (.str x)
    | tup q t =>
      cases e
      rcases hr.sub.sqT q with (q | ⟨o, q⟩) | ⟨o, its, n, q, c, _⟩
      · exact .base (.tup q)
      · exact .fTuple q
      · exact .kTuple q c
    | lst q t =>
      cases e
      rcases hr.sub.sqL q with (q | ⟨o, q⟩) | ⟨o, its, n, q, c, _⟩
      · exact .base (.lst q)
      · exact .base (.frz q)
      · exact .kList q c
    | dct q _ _ _ _ => cases e; exact .fDict (hr.sub _ _ q)
    | ptr _ => exact absurd rfl (hp _)
    | fn _ => cases e
    | ty _ => cases e
  | dead => cases e
  | lst q t => cases e; exact .base (.lst q)
  | dct q k t => cases e; exact .base (.dK q)
theorem b_isi : BiG X (.builtin "isinstance") gIsi := by
  refine ⟨_, call_isi, fun α F H S xs ds z Q hr hv hz q => ?_⟩
  unfold gIsi at hz
  split at hz
  · rename_i d T
    cases hv with
    | cons h1 h2 =>
      cases h2 with
      | cons h2 h3 =>
        cases h3
        cases h2
        rename_i v
        cases e1 : tyName S d with
        | none => rw [e1] at hz; cases hz
        | some t =>
          rw [e1] at hz
          cases e2 : kitB t T with
          | none => rw [Option.bind_some, e2] at hz; cases hz
          | some k =>
            rw [Option.bind_some, e2] at hz
            cases hz
            exact ⟨v, .ty T, .type t, .type T, k, rfl, .ty T, hr.tyX h1 e1, kit_ty e2, fin_now hr (.bl _) q⟩
  · cases hz
theorem b_len : BiG X (.builtin "len") gLen := by
  refine ⟨_, call_len, fun α F H S xs ds z Q hr hv hz q => ?_⟩
  unfold gLen at hz
  split at hz
  · rename_i d
    cases hv with
    | cons h1 h2 =>
      cases h2
      rename_i v
      split at hz
      · rename_i y e
        split at hz
        · rename_i hl
          cases hz
          have := hr.viewS h1 e
          subst this
          exact ⟨_, y.length, rfl, ⟨hl, rfl⟩, fin_now hr (.int _) q⟩
        · cases hz
      · rename_i ys e
        cases hz
        obtain ⟨a, us, rfl, h3, h4⟩ := hr.viewT h1 e
        exact ⟨_, us.length, rfl, .inr ⟨us, h3, rfl⟩, by rw [h4.length]; exact fin_now hr (.int _) q⟩
      · rename_i ys e
        cases hz
        obtain ⟨a, us, rfl, h3, h4⟩ := hr.viewL h1 e
        exact ⟨_, us.length, rfl, .inl ⟨us, h3, rfl⟩, by rw [h4.length]; exact fin_now hr (.int _) q⟩
      · cases hz
  · cases hz
theorem b_abs : BiG X (.builtin "abs") gAbs := by
  refine ⟨_, call_abs, fun α F H S xs ds z Q hr hv hz q => ?_⟩
  unfold gAbs at hz
  split at hz
  · cases hz
    cases hv with
    | cons h1 h2 => cases h2; cases h1; exact ⟨_, rfl, fin_now hr (.int _) q⟩
  · cases hz
theorem b_int : BiG X (.type "int") gInt := by
  refine ⟨_, call_int1.or call_int_str, fun α F H S xs ds z Q hr hv hz q => ?_⟩
  unfold gInt at hz
  split at hz
  · cases hz
    cases hv with
    | cons h1 h2 => cases h2; cases h1; exact .inl (.inl ⟨_, rfl, fin_now hr (.int _) q⟩)
  · cases hz
    cases hv with
    | cons h1 h2 => cases h2; cases h1; exact .inl (.inr ⟨_, rfl, fin_now hr (.int _) q⟩)
  · cases hv with
    | cons h1 h2 =>
      cases h2; cases h1
      split at hz
      · rename_i n e
        split at hz
        · rename_i hl
          cases hz
          exact .inr ⟨_, n, rfl, e, hl, fin_now hr (.int _) q⟩
        · cases hz
      · cases hz
  · cases hz
theorem b_str : BiG X (.type "str") gStr := by
  refine ⟨_, call_str_int.or SkE.call_str_str, fun α F H S xs ds z Q hr hv hz q => ?_⟩
  unfold gStr at hz
  split at hz
  · split at hz
    · rename_i hl
      cases hz
      cases hv with
      | cons h1 h2 => cases h2; cases h1; exact .inl ⟨_, rfl, hl, fin_now hr (.str _) q⟩
    · cases hz
  · cases hz
    cases hv with
    | cons h1 h2 => cases h2; cases h1; exact .inr ⟨_, rfl, fin_now hr (.str _) q⟩
  · cases hz
theorem b_all (hc : X.calm = true) : BiG X (.builtin "all") gAll := by
  refine ⟨_, cr_all hc, fun α F H S xs ds z Q hr hv hz q => ?_⟩
  unfold gAll at hz
  split at hz
  · rename_i d
    cases hv with
    | cons h1 h2 =>
      cases h2
      split at hz
      · rename_i ys e
        cases e2 : asBls ys with
        | none => rw [e2] at hz; cases hz
        | some bs =>
          rw [e2] at hz; cases hz
          obtain ⟨a, us, rfl, h3, h4⟩ := hr.viewL h1 e
          rw [asBls_eq e2] at h4
          rw [h4.bls] at h3
          exact ⟨a, bs, rfl, h3, fin_now hr (.bl _) q⟩
      · cases hz
  · cases hz
theorem b_any (hc : X.calm = true) : BiG X (.builtin "any") gAny := by
  refine ⟨_, cr_any hc, fun α F H S xs ds z Q hr hv hz q => ?_⟩
  unfold gAny at hz
  split at hz
  · rename_i d
    cases hv with
    | cons h1 h2 =>
      cases h2
      split at hz
      · rename_i ys e
        cases e2 : asBls ys with
        | none => rw [e2] at hz; cases hz
        | some bs =>
          rw [e2] at hz; cases hz
          obtain ⟨a, us, rfl, h3, h4⟩ := hr.viewL h1 e
          rw [asBls_eq e2] at h4
          rw [h4.bls] at h3
          exact ⟨a, bs, rfl, h3, fin_now hr (.bl _) q⟩
      · cases hz
  · cases hz
theorem b_sum (hc : X.calm = true) : BiG X (.builtin "sum") gSum := by
  refine ⟨_, cr_sum hc, fun α F H S xs ds z Q hr hv hz q => ?_⟩
  unfold gSum at hz
  split at hz
  · rename_i d
    cases hv with
    | cons h1 h2 =>
      cases h2
      split at hz
      · rename_i ys e
        cases e2 : asInts ys with
        | none => rw [e2] at hz; cases hz
        | some bs =>
          rw [e2] at hz; cases hz
          obtain ⟨a, us, rfl, h3, h4⟩ := hr.viewL h1 e
          rw [asInts_eq e2] at h4
          rw [h4.ints] at h3
          exact ⟨a, bs, rfl, h3, fin_now hr (.int _) q⟩
      · cases hz
  · cases hz
end
end DL

set_option Elab.async false
set_option linter.all false
set_option maxRecDepth 100000
set_option maxHeartbeats 4000000
set_option autoImplicit false
/-! Data layer, ninth part: repr, methods, texts, items, slices, lists that are made. -/
namespace DL
open PySem PySem.Spec PyProof.Rows L2

section
variable {X : Cx} {W : WX} {a b c e : Expr} {es rest : List Expr} {ra rb rc : RE} {ba bb : RB} {rs : RA} {pos p : Pos} {K : Fg} {mg : Str → Option Value} {α β : List Addr} {F F1 H H1 : Hp} {S : Sto}
theorem op_mulS : OpR X (binaryOp .Mult) (fun x y H Q => ∃ i j, x = .str i ∧ y = .int j ∧ MulOk i j ∧ Q (.str (Txt.mul i j)) H) := by
  intro pins s σ H x y v u Q I rx ry h
  obtain ⟨i, j, rfl, rfl, hk, q⟩ := h
  obtain ⟨t, rfl⟩ := rx
  obtain ⟨t', rfl⟩ := ry
  exact SB.mul hk fun t' k => ⟨.str _, H, I.tok _, ⟨_, rfl⟩, q⟩
instance (x : Str) (n : Int) : Decidable (MulOk x n) := by unfold MulOk; infer_instance
def gMulS : Sto → D → D → Option D := fun _ d e => match d, e with
  | .str x, .int n => if MulOk x n then some (.str (Txt.mul x n)) else none
  | _, _ => none
theorem g_mulS : OpG X (binaryOp .Mult) gMulS := by
  refine ⟨_, op_mulS, fun α F H S x y d e z Q hr hx hy hz q => ?_⟩
  unfold gMulS at hz
  split at hz
  · split at hz
    · rename_i hc
      cases hz; cases hx; cases hy
      exact ⟨_, _, rfl, rfl, hc, fin_now hr (.str _) q⟩
    · cases hz
  · cases hz
theorem g_add : OpG X (binaryOp .Add) gAdd := by
  refine ⟨_, (op_add.or op_add_str).or op_catA, fun α F H S x y d e z Q hr hx hy hz q => ?_⟩
  unfold gAdd at hz
  split at hz
  · rename_i e1 e2
    cases hz
    have := hr.viewI hx e1
    have := hr.viewI hy e2
    subst x; subst y
    exact .inl (.inl ⟨_, _, rfl, rfl, fin_now hr (.int _) q⟩)
  · rename_i e1 e2
    split at hz
    · rename_i hl
      cases hz
      have := hr.viewS hx e1
      have := hr.viewS hy e2
      subst x; subst y
      exact .inl (.inr ⟨_, _, rfl, rfl, hl, fin_now hr (.str _) q⟩)
    · cases hz
  · rename_i xs ys e1 e2
    split at hz
    · rename_i hl
      cases hz
      obtain ⟨a, us, rfl, a1, a2⟩ := hr.viewT hx e1
      obtain ⟨b, ws, rfl, b1, b2⟩ := hr.viewT hy e2
      refine .inr ⟨a, b, us, ws, rfl, rfl, a1, b1, by rw [a2.length, b2.length]; exact hl, fun en => ?_, fun _ en => ?_, fun n1 n2 p hp => ?_⟩
      · subst en
        have en : xs = [] := by cases a2; rfl
        subst en
        have sy := hr.see hy
        rw [e2] at sy
        cases sy with
        | «at» h _ => exact fin_now hr h q
      · subst en
        have en : ys = [] := by cases b2; rfl
        subst en
        rw [List.append_nil] at q
        have sx := hr.see hx
        rw [e1] at sx
        cases sx with
        | «at» h _ => exact fin_now hr h q
      · obtain ⟨c1, c2, c3⟩ := hr.tup (a2.append b2) hp
        exact q _ _ _ _ c1 c2 c3
    · cases hz
  · cases hz
mutual
theorem dp_noD {v : V} : ∀ {d : PyData}, Dp K H v d → d.hasDict = false
  | _, .non => by simp [PyData.hasDict]
  | _, .bl _ => by simp [PyData.hasDict]
  | _, .int _ => by simp [PyData.hasDict]
  | _, .str _ => by simp [PyData.hasDict]
  | _, .lst _ t => by rw [PyData.hasDict]; exact dpA_noD t
  | _, .tup _ t => by rw [PyData.hasDict]; exact dpA_noD t
theorem dpA_noD {vs : List V} : ∀ {ds : List PyData}, DpAll K H vs ds → PyData.hasDictAll ds = false
  | _, .nil => by simp [PyData.hasDictAll]
  | _, .cons h t => by rw [PyData.hasDictAll, dp_noD h, dpA_noD t]; rfl
end
/-! ### repr -/
theorem repr_ok (hG : X.A.guards = some []) (hu : X.A.units + 80 < cLine) : CallR X (.builtin "repr") (fun xs H Q => ∃ x d, xs = [x] ∧ (Dp X.K H x d ∨ (d = .dict [] ∧ ∃ a, x = .ref a ∧ H a = some (.dK []))) ∧ d.showable = true ∧ d.depth ≤ 64 ∧ d.shown.length ≤ sizeLine ∧ Q (.str d.shown) H) := by
  intro pins s σ H xs us Q I rv h
  obtain ⟨x, d, rfl, hd, h1, h2, h3, q⟩ := h
  obtain ⟨u, rfl, rx⟩ := vals1 rv
  have done : ∀ h' t tk, (∀ b o, s.heap.get? b = some o → h'.get? b = some o) → EP X pins σ Q (.str d.shown t) { s with heap := h', toks := tk } := fun h' t tk k => ⟨.str _, H, I.kept (t' := tk) k, ⟨_, rfl⟩, q⟩
  rcases hd with hd | ⟨rfl, a, rfl, ha⟩
  · obtain ⟨as, r⟩ := Dp.reads I d x u hd rx
    have noD : d.hasDict = false := dp_noD hd
    cases hd with
    | non => cases rx; exact P.repr_of_none (done s.heap _ _ fun _ _ e => e)
    | bl b => cases rx; exact P.repr_of_bool (done s.heap _ _ fun _ _ e => e)
    | int i => obtain ⟨t, rfl⟩ := rx; exact P.repr_of_int (of_decide_eq_true (by simpa [PyData.showable] using h1)) (done s.heap _ _ fun _ _ e => e)
    | str z => obtain ⟨t, rfl⟩ := rx; exact P.repr_of_str (by simpa [PyData.shown] using done s.heap s.toks (s.toks + 1) fun _ _ e => e) (by simpa [PyData.shown] using h3)
    | lst _ _ => cases rx; exact repr_of_reads' r h1 (fun z => by rw [noD] at z; cases z) hG (by omega) (fun _ _ e => e) (fun h' u tk k => done h' u tk k) h3
    | tup _ _ => cases rx; exact repr_of_reads' r h1 (fun z => by rw [noD] at z; cases z) hG (by omega) (fun _ _ e => e) (fun h' u tk k => done h' u tk k) h3
  · cases rx
    obtain ⟨_, hs, vs, hk, o, es, ep, e1, e2, e3, hdd⟩ := I.hok a _ ha
    cases hk
    have e5 : es.toList = [] := by
      have h5 := hdd.2.1
      cases h6 : es.toList with
      | nil => rfl
      | cons _ _ => rw [h6] at h5; cases h5
    have r : Reads s.heap (.ref a) (.dict []) (a :: [] ++ []) := .dict e1 e2.1 e3 (by rw [e5]; exact .nil) (by rw [e5]; exact .nil)
    exact repr_of_reads' r h1 (fun _ => by simpa using (beq_eq_false_iff_ne.mp hs).symm) hG (by omega) (fun _ _ e => e) (fun h' u tk k => done h' u tk k) h3
theorem b_repr (hG : X.A.guards = some []) (hu : X.A.units + 80 < cLine) : BiG X (.builtin "repr") gRepr := by
  refine ⟨_, repr_ok hG hu, fun α F H S xs ds z Q hr hv hz q => ?_⟩
  unfold gRepr at hz
  split at hz
  · rename_i d
    cases hv with
    | cons h1 h2 =>
      cases h2
      split at hz
      · rename_i x e
        split at hz
        · rename_i hc
          rw [Bool.and_eq_true, Bool.and_eq_true] at hc
          cases hz
          refine ⟨_, x, rfl, ?_, hc.1.1, of_decide_eq_true hc.1.2, of_decide_eq_true hc.2, fin_now hr (.str _) q⟩
          cases d with
          | ptr k =>
            unfold toPyR at e
            dsimp only at e
            split at e
            · rename_i e6
              cases e
              cases h1 with
              | ptr ha =>
                obtain ⟨_, o, _⟩ := hr.owned ha
                rw [e6] at o
                obtain ⟨ws, a1, a2, a3⟩ := o
                have : ws = [] := by have := a2.length; simpa using this
                subst this
                exact .inr ⟨rfl, _, rfl, a1⟩
            · exact .inl (hr.dp h1 e)
          | _ => exact .inl (hr.dp h1 e)
        · cases hz
      · cases hz
  · cases hz
end
end DL

set_option Elab.async false
set_option linter.all false
set_option maxRecDepth 100000
set_option maxHeartbeats 4000000
set_option autoImplicit false
/-! Data layer, tenth part: methods, lists that are made, items, slices. -/
namespace DL
open PySem PySem.Spec PyProof.Rows L2

/-! ### what they come to -/
/-- the type by whose method it goes -/
def isTy (T : String) (S : Sto) (d : D) : Bool := match deref S d with
  | .str _ => T == "str"
  | .lst _ => T == "list"
  | .dct _ => T == "dict"
  | _ => false
/-- a method: the receiver's type is looked at ahead of the arguments -/
def rMeth (T : String) (g : Sto → D → List D → Option (D × Sto)) (a : RE) (as : RA) : RE := fun δ S => (a δ S).bind fun x S1 => if isTy T S1 x then (as δ S1).bind fun ys S2 => match g S2 x ys with
  | some (z, S3) => .ok z S3
  | none => .stuck else .stuck
def pureM (g : Sto → D → List D → Option D) : Sto → D → List D → Option (D × Sto) := fun S d ds => (g S d ds).map fun z => (z, S)
def gStarts : Sto → D → List D → Option D := fun _ d ds => match d, ds with
  | .str a, [.str b] => some (.bl (Txt.startswith a b))
  | _, _ => none
def gIndexS : Sto → D → List D → Option D := fun _ d ds => match d, ds with
  | .str a, [.str b] => (match Builtin.Str.occurrences a b 0 a.length 1 with
    | k :: _ => some (.int (k : Nat))
    | [] => none)
  | _, _ => none
def gJoin : Sto → D → List D → Option D := fun S d ds => match d, ds with
  | .str a, [e] => (match deref S e with
    | .lst xs => (match asStrs xs with
      | some ys => if (ys.map (·.length)).sum + ys.length * a.length ≤ 16777216 then some (.str (Txt.join a ys)) else none
      | none => none)
    | _ => none)
  | _, _ => none
def mAppend : Sto → D → List D → Option (D × Sto) := fun S d ds => match d, ds with
  | .ptr k, [y] => (match S[k]? with
    | some (.lst xs) => if xs.length < sizeLine then some (.non, S.set k (.lst (xs ++ [y]))) else none
    | _ => none)
  | _, _ => none
def mInsert : Sto → D → List D → Option (D × Sto) := fun S d ds => match d, ds with
  | .ptr k, [.int i, y] => (match S[k]? with
    | some (.lst xs) => if xs.length < sizeLine ∧ 0 ≤ i ∧ i < 2 ^ 63 then some (.non, S.set k (.lst (xs.take i.toNat ++ [y] ++ xs.drop i.toNat))) else none
    | _ => none)
  | _, _ => none
def mPop : Sto → D → List D → Option (D × Sto) := fun S d ds => match d, ds with
  | .ptr k, [] => (match S[k]? with
    | some (.lst xs) => (match xs[xs.length - 1]? with
      | some y => some (y, S.set k (.lst xs.dropLast))
      | none => none)
    | _ => none)
  | _, _ => none
/-- an item of a list, a tuple, a text -/
def gIx : Sto → D → D → Option D := fun S d e => match deref S d, e with
  | .lst xs, .int i => atI xs i
  | .tup xs, .int i => atI xs i
  | .str z, .int i => if z.length ≤ sizeLine then (atI z.cps.toList i).map fun c => .str ⟨#[c]⟩ else none
  | _, _ => none
/-- a part: from, to -/
def cutD {A : Type} (xs : List A) (lo hi : Option Int) : List A := (xs.drop (HT.sIx xs.length 0 lo)).take (HT.sIx xs.length xs.length hi - HT.sIx xs.length 0 lo)
abbrev RO := Sl → Sto → Res (Option Int)
def oNone : RO := fun _ S => .ok none S
def oSome (a : RE) : RO := fun δ S => (a δ S).bind fun x S1 => match x with
  | .int i => .ok (some i) S1
  | _ => .stuck
def rCut (a : RE) (l h : RO) : RE := fun δ S => (a δ S).bind fun x S1 => (l δ S1).bind fun i S2 => (h δ S2).bind fun j S3 => match deref S3 x with
  | .lst xs => .ok (.lst (cutD xs i j)) S3
  | .tup xs => .ok (.tup (cutD xs i j)) S3
  | .str z => if z.length ≤ sizeLine then .ok (.str (cutS z i j)) S3 else .stuck
  | _ => .stuck

section
variable {X : Cx} {W : WX} {a b c e : Expr} {es rest : List Expr} {ra rb rc : RE} {ba bb : RB} {rs : RA} {pos p : Pos} {K : Fg} {mg : Str → Option Value} {α β : List Addr} {F F1 H H1 : Hp} {S : Sto}
theorem isTy_ok (hr : Rel K mg α F H S) {v : V} {d : D} {T : String} (h : DV K mg F α v d) (e : isTy T S d = true) (hT : T ≠ "dict") : tyV K T v H := by
  have s := hr.see h
  unfold isTy at e
  generalize deref S d = dd at e s
  cases s with
  | «at» h hp =>
    cases h with
    | str x => exact beq_iff_eq.mp e
    | lst q t => exact .inl ⟨beq_iff_eq.mp e, _, hr.sub.sqL q⟩
    | dct _ _ _ _ _ => exact absurd (beq_iff_eq.mp e) hT
    | ptr _ => exact absurd rfl (hp _)
    | _ => cases e
  | dead => cases e
  | lst q t => exact .inl ⟨beq_iff_eq.mp e, _, SqL.of q⟩
  | dct q k t => exact absurd (beq_iff_eq.mp e) hT
def OkM (X : Cx) (r : V → List V → Hp → VK → Prop) (g : Sto → D → List D → Option (D × Sto)) : Prop := ∀ α F H S (x : V) (xs : List V) (d : D) (ds : List D) (z : D) (S' : Sto) (Q : VK), Rel X.K X.mg α F H S → DV X.K X.mg F α x d → DVs X.K X.mg F α xs ds → g S d ds = some (z, S') →
  (∀ v H' β F', Rel X.K X.mg (α ++ β) F' H' S' → Stp α F H β F' H' → DV X.K X.mg F' (α ++ β) v z → Q v H') → r x xs H Q
structure MdG (X : Cx) (id : String) (g : Sto → D → List D → Option (D × Sto)) : Prop where
  ex : ∃ r, MtR X id r ∧ OkM X r g
theorem pd_meth {o : Expr} {name : Str} {T id : String} {g : Sto → D → List D → Option (D × Sto)} {apos cpos : Pos} {ro : RE} (hm : MdG X id g) (pa : PlainAttrs T) (slot : Slot T name id) (hty : typeOf (.builtin id) = pure (.type "method_descriptor")) (ho : PD X W o ro) (ha : PDs X W (e :: es) rs) (hT : T ≠ "dict" := by decide)
    (hbase : attributeBase o name X.env (eval o X.env) = eval o X.env := by rfl)
    (hfew : ((backTo cpos (starEach (e :: es) X.env)).all (fun x => !x.1) && (backToKw cpos (keywordEach [] X.env)).all (fun x => x.1.isSome) && decide ((e :: es).length + ([] : List Keyword).length + (if ([] : List Keyword).isEmpty then 0 else 1) < 30)) = true := by rfl)
    (hline : (apos.endLine == cpos.line) = true := by rfl) (hs : starEach (e :: es) X.env = (false, eval e X.env) :: starEach es X.env := by rfl) (hplain : (backTo cpos (starEach es X.env)).any (·.1) = false := by rfl) :
    PD X W (.Call (.Attribute o name apos) (e :: es) [] cpos) (rMeth T g ro rs) := by
  obtain ⟨r, h1, h2⟩ := hm.ex
  obtain ⟨to, po, so⟩ := ho.ex
  obtain ⟨t, pt, st⟩ := ha.ex
  refine ⟨_, pe_bm pa slot hty h1 po pt hbase hfew hline hs hplain, fun α F σ H δ S Q hr hs h => ?_⟩
  refine so α F σ H δ S _ hr hs (wp.bind h fun d S1 _ x H1 β F1 r1 q1 v1 h1 => ?_)
  split at h1
  · rename_i ety
    refine ⟨isTy_ok r1 v1 ety hT, ?_⟩
    refine st (α ++ β) F1 σ H1 δ S1 _ r1 (hs.mono q1.sub) (wp.bind h1 fun ds S2 _ xs H2 γ F2 r2 q2 v2 h3 => ?_)
    cases eg : g S2 d ds with
    | none => rw [eg] at h3; exact h3.elim
    | some zs =>
      obtain ⟨z, S3⟩ := zs
      rw [eg] at h3
      exact h2 _ F2 H2 S2 x xs d ds z S3 Q r2 (v1.mono q2.sub) v2 eg fun v H' ε F' r3 s3 v3 => h3 v H' ε F' r3 s3 v3
  · exact h1.elim
theorem pd_meth0 {o : Expr} {name : Str} {T id : String} {g : Sto → D → List D → Option (D × Sto)} {apos cpos : Pos} {ro : RE} (hm : MdG X id g) (pa : PlainAttrs T) (slot : Slot T name id) (hty : typeOf (.builtin id) = pure (.type "method_descriptor")) (ho : PD X W o ro) (hT : T ≠ "dict" := by decide)
    (hbase : attributeBase o name X.env (eval o X.env) = eval o X.env := by rfl) (hline : (apos.endLine == cpos.line) = true := by rfl) : PD X W (.Call (.Attribute o name apos) [] [] cpos) (rMeth T g ro rNil) := by
  obtain ⟨r, h1, h2⟩ := hm.ex
  obtain ⟨to, po, so⟩ := ho.ex
  refine ⟨_, pe_bm0 pa slot hty h1 po hbase hline, fun α F σ H δ S Q hr hs h => ?_⟩
  refine so α F σ H δ S _ hr hs (wp.bind h fun d S1 _ x H1 β F1 r1 q1 v1 h1 => ?_)
  split at h1
  · rename_i ety
    refine ⟨isTy_ok r1 v1 ety hT, ?_⟩
    have h3 : wp X.K X.mg (α ++ β) F1 H1 (relD X.K X.mg) (match g S1 d [] with | some (z, S3) => .ok z S3 | none => .stuck) Q _ := h1
    cases eg : g S1 d [] with
    | none => rw [eg] at h3; exact h3.elim
    | some zs =>
      obtain ⟨z, S3⟩ := zs
      rw [eg] at h3
      exact h2 _ F1 H1 S1 x [] d [] z S3 Q r1 v1 .nil eg fun v H' ε F' r3 s3 v3 => h3 v H' ε F' r3 s3 v3
  · exact h1.elim
theorem mdg_pure {id : String} {r : V → List V → Hp → VK → Prop} {g : Sto → D → List D → Option D} (h : MtR X id r) (hk : ∀ α F H S (x : V) (xs : List V) (d : D) (ds : List D) (z : D) (Q : VK), Rel X.K X.mg α F H S → DV X.K X.mg F α x d → DVs X.K X.mg F α xs ds → g S d ds = some z →
    (∀ v H' β F', Rel X.K X.mg (α ++ β) F' H' S → Stp α F H β F' H' → DV X.K X.mg F' (α ++ β) v z → Q v H') → r x xs H Q) : MdG X id (pureM g) := by
  refine ⟨r, h, fun α F H S x xs d ds z S' Q hr hx hv hz q => ?_⟩
  unfold pureM at hz
  cases e : g S d ds with
  | none => rw [e] at hz; cases hz
  | some y => rw [e] at hz; cases hz; exact hk α F H S x xs d ds z Q hr hx hv e q
theorem m_starts : MdG X "str.startswith" (pureM gStarts) := mdg_pure mt_startswith fun α F H S x xs d ds z Q hr hx hv hz q => by
  unfold gStarts at hz
  split at hz
  · cases hz; cases hx
    cases hv with
    | cons h1 h2 => cases h2; cases h1; exact ⟨_, _, rfl, rfl, fin_now hr (.bl _) q⟩
  · cases hz
theorem mt_indexF : MtR X "str.index" (fun x xs H Q => ∃ a b k r, x = .str a ∧ xs = [.str b] ∧ Builtin.Str.occurrences a b 0 a.length 1 = k :: r ∧ Q (.int (k : Nat)) H) := by
  intro pins s σ H x xs v us Q I rx rv h
  obtain ⟨a, b, k, r, rfl, rfl, e, q⟩ := h
  obtain ⟨t, rfl⟩ := rx
  obtain ⟨u, rfl, ru⟩ := vals1 rv
  obtain ⟨t', rfl⟩ := ru
  exact PySem.SC.index e ⟨.int (k : Nat), H, I.tok _, ⟨_, rfl⟩, q⟩
theorem m_indexS : MdG X "str.index" (pureM gIndexS) := mdg_pure mt_indexF fun α F H S x xs d ds z Q hr hx hv hz q => by
  unfold gIndexS at hz
  split at hz
  · split at hz
    · rename_i k r e
      cases hz; cases hx
      cases hv with
      | cons h1 h2 => cases h2; cases h1; exact ⟨_, _, k, r, rfl, rfl, e, fin_now hr (.int _) q⟩
    · cases hz
  · cases hz
theorem m_join : MdG X "str.join" (pureM gJoin) := mdg_pure mt_join fun α F H S x xs d ds z Q hr hx hv hz q => by
  unfold gJoin at hz
  split at hz
  · rename_i a e
    split at hz
    · rename_i ys e1
      split at hz
      · rename_i zs e2
        split at hz
        · rename_i hl
          cases hz; cases hx
          cases hv with
          | cons h1 h2 =>
            cases h2
            obtain ⟨l, us, rfl, a1, a2⟩ := hr.viewL h1 e1
            rw [asStrs_eq e2] at a2
            rw [a2.strs] at a1
            exact ⟨_, l, zs, rfl, rfl, .inl a1, hl, fin_now hr (.str _) q⟩
        · cases hz
      · cases hz
    · cases hz
  · cases hz
theorem getD_of {S : Sto} {k : Nat} {d : D} (h : S[k]? = some d) : S.getD k .non = d := by rw [List.getD_eq_getElem?_getD, h]; rfl
theorem m_append : MdG X "list.append" mAppend := by
  refine ⟨rAppend, mt_append, fun α F H S x xs d ds z S' Q hr hx hv hz q => ?_⟩
  unfold mAppend at hz
  split at hz
  · rename_i k y
    split at hz
    · rename_i zs e
      split at hz
      · rename_i hl
        cases hz
        cases hx with
        | ptr ha =>
          obtain ⟨o, _⟩ := hr.own k _ _ ha e
          obtain ⟨us, o1, o2⟩ := o
          cases hv with
          | cons h1 h2 =>
            cases h2
            obtain ⟨a1, a2⟩ := hr.setO (o := .lst (us ++ [_])) (d := .lst (zs ++ [y])) ha e (by intro z; cases z) ⟨_, upd_same, o2.append (.cons h1 .nil)⟩
            exact ⟨_, us, _, rfl, rfl, o1, by rw [o2.length]; exact hl, q _ _ _ _ a1 a2 .non⟩
      · cases hz
    · cases hz
  · cases hz
theorem m_insert : MdG X "list.insert" mInsert := by
  refine ⟨_, mt_insert, fun α F H S x xs d ds z S' Q hr hx hv hz q => ?_⟩
  unfold mInsert at hz
  split at hz
  · rename_i k i y
    split at hz
    · rename_i zs e
      split at hz
      · rename_i hl
        cases hz
        cases hx with
        | ptr ha =>
          obtain ⟨o, _⟩ := hr.own k _ _ ha e
          obtain ⟨us, o1, o2⟩ := o
          cases hv with
          | cons h1 h2 =>
            cases h1
            cases h2 with
            | cons h2 h3 =>
              cases h3
              rename_i v
              obtain ⟨a1, a2⟩ := hr.setO (o := .lst (us.take i.toNat ++ [v] ++ us.drop i.toNat)) (d := .lst (zs.take i.toNat ++ [y] ++ zs.drop i.toNat)) ha e (by intro z; cases z) ⟨_, upd_same, ((o2.take _).append (.cons h2 .nil)).append (o2.drop _)⟩
              exact ⟨_, us, i, v, rfl, rfl, o1, by rw [o2.length]; exact hl.1, hl.2.1, hl.2.2, q _ _ _ _ a1 a2 .non⟩
      · cases hz
    · cases hz
  · cases hz
theorem DVs.dropLast {vs : List V} {ds : List D} (h : DVs K mg F α vs ds) : DVs K mg F α vs.dropLast ds.dropLast := by
  rw [List.dropLast_eq_take, List.dropLast_eq_take, h.length]; exact h.take _
theorem m_pop : MdG X "list.pop" mPop := by
  refine ⟨L2.rPop, mt_pop, fun α F H S x xs d ds z S' Q hr hx hv hz q => ?_⟩
  unfold mPop at hz
  split at hz
  · rename_i k
    split at hz
    · rename_i zs e
      split at hz
      · rename_i y ey
        cases hz
        cases hx with
        | ptr ha =>
          obtain ⟨o, _⟩ := hr.own k _ _ ha e
          obtain ⟨us, o1, o2⟩ := o
          cases hv
          obtain ⟨v, e1, e2⟩ := o2.get ey
          obtain ⟨a1, a2⟩ := hr.setO (o := .lst us.dropLast) (d := .lst zs.dropLast) ha e (by intro z; cases z) ⟨_, upd_same, o2.dropLast⟩
          exact ⟨_, us, v, rfl, rfl, o1, by rw [o2.length]; exact e1, q _ _ _ _ a1 a2 (e2.mono a2.sub)⟩
      · cases hz
    · cases hz
  · cases hz

/-! ### items -/
theorem atI_DV {xs : List D} {us : List V} {i : Int} {d : D} (h : DVs K mg F α us xs) (e : atI xs i = some d) : ∃ v, atI us i = some v ∧ DV K mg F α v d := by
  unfold atI at e ⊢
  rw [h.length]
  cases q : ixN xs.length i with
  | none => rw [q] at e; cases e
  | some j => rw [q] at e; exact h.get e
theorem pd_ix (ha : PD X W a ra) (hb : PD X W b rb) (hs : PlainIx b := by intro _ _; rfl) : PD X W (.Subscript a b pos) (rBin gIx ra rb) := by
  obtain ⟨ta, pa, sa⟩ := ha.ex
  obtain ⟨tb, pb, sb⟩ := hb.ex
  refine ⟨_, pe_ix ix_seq pa pb hs, sa.bin sb fun α F H S x y d e z Q hr hx hy hz q => ?_⟩
  unfold gIx at hz
  split at hz
  · rename_i xs i e1
    cases hy
    obtain ⟨l, us, rfl, a1, a2⟩ := hr.viewL hx e1
    obtain ⟨v, e3, e4⟩ := atI_DV a2 hz
    exact .inl ⟨l, us, i, v, rfl, rfl, a1, e3, fin_now hr e4 q⟩
  · rename_i xs i e1
    cases hy
    obtain ⟨l, us, rfl, a1, a2⟩ := hr.viewT hx e1
    obtain ⟨v, e3, e4⟩ := atI_DV a2 hz
    exact .inr (.inl ⟨l, us, i, v, rfl, rfl, a1, e3, fin_now hr e4 q⟩)
  · rename_i zz i e1
    split at hz
    · rename_i hl
      cases hy
      have := hr.viewS hx e1
      subst this
      cases e3 : atI zz.cps.toList i with
      | none => rw [e3] at hz; cases hz
      | some c => rw [e3] at hz; cases hz; exact .inr (.inr ⟨zz, i, c, rfl, rfl, hl, e3, fin_now hr (.str _) q⟩)
    · cases hz
  · cases hz
end
end DL

set_option Elab.async false
set_option linter.all false
set_option maxRecDepth 100000
set_option maxHeartbeats 4000000
set_option autoImplicit false
/-! Data layer, eleventh part: slices, what is walked, targets, lists that are made, dicts. -/
namespace DL
open PySem PySem.Spec PyProof.Rows L2

def gIn1 : Sto → D → D → Option D := fun S d e => match d, deref S e with
  | .str x, .str z => if x.length = 1 then some (.bl (decide (x.cps.getD 0 0 ∈ z.cps.toList))) else none
  | _, _ => none
def gNotIn1 : Sto → D → D → Option D := fun S d e => match gIn1 S d e with
  | some (.bl b) => some (.bl (!b))
  | _ => none
def flatD : D → Option V
  | .non => some .non
  | .bl b => some (.bl b)
  | .int i => some (.int i)
  | .str x => some (.str x)
  | _ => none
def flatDs : List D → Option (List V)
  | [] => some []
  | d :: r => match flatD d, flatDs r with
    | some v, some vs => some (v :: vs)
    | _, _ => none
/-- in a list or tuple of flat things -/
def gInQ : Sto → D → D → Option D := fun S d e => match flatD d, deref S e with
  | some x, .lst ys => (flatDs ys).map fun vs => .bl (inV x vs)
  | some x, .tup ys => (flatDs ys).map fun vs => .bl (inV x vs)
  | _, _ => none
def gNotInQ : Sto → D → D → Option D := fun S d e => match gInQ S d e with
  | some (.bl b) => some (.bl (!b))
  | _ => none
def rSeq (a : RE) : RA := fun δ S => (a δ S).bind fun x S1 => match x with
  | .lst ds => .ok ds S1
  | .tup ds => .ok ds S1
  | .str z => .ok (z.cps.toList.map fun c => .str ⟨#[c]⟩) S1
  | _ => .stuck
def rangeD (lo hi : Int) : List D := (List.range (hi - lo).toNat).map fun (i : Nat) => .int (lo + i)
def rRange (a : RA) : RA := fun δ S => (a δ S).bind fun xs S1 => match xs with
  | [.int j] => if -(2 ^ 62) ≤ j ∧ j < 2 ^ 62 then .ok (rangeD 0 j) S1 else .stuck
  | [.int i, .int j] => if -(2 ^ 62) ≤ i ∧ i < 2 ^ 62 ∧ -(2 ^ 62) ≤ j ∧ j < 2 ^ 62 then .ok (rangeD i j) S1 else .stuck
  | _ => .stuck
def enumD : Nat → List D → List D
  | _, [] => []
  | n, d :: r => .tup [.int n, d] :: enumD (n + 1) r
def rEnum (a : RA) : RA := fun δ S => (a δ S).bind fun xs S1 => match xs with
  | [.lst ds] => .ok (enumD 0 ds) S1
  | _ => .stuck
def zipD : List D → List D → List D
  | a :: as, b :: bs => .tup [a, b] :: zipD as bs
  | _, _ => []
def rZip (a : RA) : RA := fun δ S => (a δ S).bind fun xs S1 => match xs with
  | [.lst ds, .lst es] => .ok (zipD ds es) S1
  | _ => .stuck
/-- a target of names, from a list -/
def gUnl (u : List D → Sl → Sto → Res Sl) : RG := fun d δ S => match deref S d with
  | .lst ds => u ds δ S
  | _ => .stuck
/-- a, b = x, y -/
def sPar (i j : Nat) (a : RA) : RS := fun δ S => (a δ S).out δ fun xs S1 => match xs with
  | [x, y] => if i < δ.length ∧ j < δ.length then .nx ((δ.set i (some x)).set j (some y)) S1 else .stuck
  | _ => .stuck

section
variable {X : Cx} {W : WX} {a b c e tg : Expr} {es rest : List Expr} {ra rb rc : RE} {ba bb : RB} {rs : RA} {pos p : Pos} {K : Fg} {mg : Str → Option Value} {α β : List Addr} {F F1 H H1 : Hp} {S : Sto}
/-! ### slices -/
def SndO (K : Fg) (mg : Str → Option Value) (W : WX) (t : TO) (r : RO) : Prop := ∀ α F σ H δ S (Q : Option Int → Hp → Prop), Rel K mg α F H S → Slots K mg F α σ δ → wp K mg α F H (fun _ _ (b a : Option Int) => b = a) (r δ S) Q (fun c d H' => W c d σ H') → t σ H Q
structure POd (X : Cx) (W : WX) (e : Option Expr) (r : RO) : Prop where
  ex : ∃ t, PO X e t ∧ SndO X.K X.mg W t r
theorem pod_none : POd X W none oNone := ⟨_, po_none, fun α F σ H δ S Q hr hs h => h.now hr rfl⟩
theorem pod_some (ha : PD X W a ra) : POd X W (some a) (oSome ra) := by
  obtain ⟨t, p1, s1⟩ := ha.ex
  refine ⟨_, po_some p1, fun α F σ H δ S Q hr hs h => ?_⟩
  refine s1 α F σ H δ S _ hr hs (wp.bind h fun d S1 _ x H1 β F1 r1 q1 v1 h1 => ?_)
  cases d with
  | int i => cases v1; exact ⟨i, rfl, h1.now r1 rfl⟩
  | _ => exact h1.elim
theorem cut_DVs {xs : List D} {us : List V} (lo hi : Option Int) (h : DVs K mg F α us xs) : DVs K mg F α (cutV us lo hi) (cutD xs lo hi) := by
  unfold cutV cutD
  rw [h.length]
  exact (h.drop _).take _
theorem pd_cut {lo hi : Option Expr} {p2 : Pos} {ol oh : RO} (ha : PD X W a ra) (hl : POd X W lo ol) (hh : POd X W hi oh) : PD X W (.Subscript a (.Slice lo hi none p2) pos) (rCut ra ol oh) := by
  obtain ⟨ta, pa, sa⟩ := ha.ex
  obtain ⟨tl, pl, sl⟩ := hl.ex
  obtain ⟨th, ph, sh⟩ := hh.ex
  refine ⟨_, pe_slice ((sl_list.or sl_tupA).or sl_str) pa pl ph, fun α F σ H δ S Q hr hs h => ?_⟩
  refine sa α F σ H δ S _ hr hs (wp.bind h fun d S1 _ x H1 β F1 r1 q1 v1 h1 => ?_)
  refine sl (α ++ β) F1 σ H1 δ S1 _ r1 (hs.mono q1.sub) (wp.bind h1 fun i S2 _ i' H2 γ F2 r2 q2 v2 h2 => ?_)
  have v2 : i' = i := v2
  subst v2
  refine sh (α ++ β ++ γ) F2 σ H2 δ S2 _ r2 ((hs.mono q1.sub).mono q2.sub) (wp.bind h2 fun j S3 _ j' H3 ε F3 r3 q3 v3 h3 => ?_)
  have v3 : j' = j := v3
  subst v3
  have vx := (v1.mono (β := γ) q2.sub).mono (β := ε) q3.sub
  split at h3
  · rename_i xs e1
    obtain ⟨l, us, rfl, a1, a2⟩ := r3.viewL vx e1
    refine .inl (.inl ⟨l, us, rfl, a1, fun p hp => ?_⟩)
    obtain ⟨c1, c2, c3⟩ := r3.lst (cut_DVs _ _ a2) hp
    exact h3 _ _ _ _ c1 c2 c3
  · rename_i xs e1
    obtain ⟨l, us, rfl, a1, a2⟩ := r3.viewT vx e1
    refine .inl (.inr ⟨l, us, rfl, a1, fun hw => ?_, fun _ p hp => ?_⟩)
    · have ew : cutD xs i' j' = xs := by
        unfold cutD
        rw [a2.length] at hw
        rw [hw.1, hw.2, List.drop_zero, Nat.sub_zero, List.take_length]
      rw [ew] at h3
      have sx := r3.see vx
      rw [e1] at sx
      cases sx with
      | «at» h _ => exact h3.now r3 h
    · obtain ⟨c1, c2, c3⟩ := r3.tup (cut_DVs _ _ a2) hp
      exact h3 _ _ _ _ c1 c2 c3
  · rename_i zz e1
    split at h3
    · rename_i hl
      have := r3.viewS vx e1
      subst this
      exact .inr ⟨zz, rfl, hl, h3.now r3 (.str _)⟩
    · exact h3.elim
  · exact h3.elim
/-! ### in -/
theorem len1_eq {x : Str} (h : x.length = 1) : x = ⟨#[x.cps.getD 0 0]⟩ := by
  obtain ⟨⟨l⟩⟩ := x
  match l, h with
  | [c], _ => rfl
theorem g_in1 : OpG X (compareOp .In) gIn1 := by
  refine ⟨_, op_in_sign, fun α F H S x y d e z Q hr hx hy hz q => ?_⟩
  unfold gIn1 at hz
  split at hz
  · rename_i x zz e1
    split at hz
    · rename_i hl
      cases hz; cases hx
      have := hr.viewS hy e1
      subst this
      exact ⟨_, zz, by rw [← len1_eq hl], rfl, fin_now hr (.bl _) q⟩
    · cases hz
  · cases hz
theorem g_notIn1 : OpG X (compareOp .NotIn) gNotIn1 := by
  refine ⟨_, op_notIn_sign, fun α F H S x y d e z Q hr hx hy hz q => ?_⟩
  unfold gNotIn1 at hz
  split at hz
  · rename_i k e0
    cases hz
    unfold gIn1 at e0
    split at e0
    · rename_i x zz e1
      split at e0
      · rename_i hl
        cases e0; cases hx
        have := hr.viewS hy e1
        subst this
        exact ⟨_, zz, by rw [← len1_eq hl], rfl, fin_now hr (.bl _) q⟩
      · cases e0
    · cases e0
  · cases hz
theorem flatD_eq {d : D} {v u : V} (h : flatD d = some v) (hv : DV K mg F α u d) : u = v ∧ flatV v = true := by
  cases hv <;> cases h <;> exact ⟨rfl, rfl⟩
theorem flatDs_eq : ∀ {ds : List D} {vs us : List V}, flatDs ds = some vs → DVs K mg F α us ds → us = vs ∧ vs.all flatV = true
  | [], _, _, h, hv => by cases h; cases hv; exact ⟨rfl, rfl⟩
  | d :: r, _, _, h, hv => by
    unfold flatDs at h
    split at h
    · rename_i e1 e2
      cases h
      cases hv with
      | cons h1 h2 =>
        obtain ⟨a1, a2⟩ := flatD_eq e1 h1
        obtain ⟨b1, b2⟩ := flatDs_eq e2 h2
        subst a1; subst b1
        exact ⟨rfl, by rw [List.all_cons, a2, b2]; rfl⟩
    · cases h
theorem inQ_ok {S : Sto} {d e : D} {k : Bool} {x y : V} (hr : Rel K mg α F H S) (hx : DV K mg F α x d) (hy : DV K mg F α y e) (h : gInQ S d e = some (.bl k)) : ∃ p xs, y = .ref p ∧ (SqL K H p xs ∨ SqT K H p xs) ∧ flatV x = true ∧ xs.all flatV = true ∧ k = inV x xs := by
  unfold gInQ at h
  split at h
  · rename_i v ys e1 e2
    cases e3 : flatDs ys with
    | none => rw [e3] at h; cases h
    | some vs =>
      rw [e3] at h; cases h
      obtain ⟨a1, a2⟩ := flatD_eq e1 hx
      obtain ⟨l, us, rfl, b1, b2⟩ := hr.viewL hy e2
      obtain ⟨c1, c2⟩ := flatDs_eq e3 b2
      subst a1; subst c1
      exact ⟨l, us, rfl, .inl b1, a2, c2, rfl⟩
  · rename_i v ys e1 e2
    cases e3 : flatDs ys with
    | none => rw [e3] at h; cases h
    | some vs =>
      rw [e3] at h; cases h
      obtain ⟨a1, a2⟩ := flatD_eq e1 hx
      obtain ⟨l, us, rfl, b1, b2⟩ := hr.viewT hy e2
      obtain ⟨c1, c2⟩ := flatDs_eq e3 b2
      subst a1; subst c1
      exact ⟨l, us, rfl, .inr b1, a2, c2, rfl⟩
  · cases h
theorem inQ_bl {S : Sto} {d e z : D} (h : gInQ S d e = some z) : ∃ k, z = .bl k := by
  unfold gInQ at h
  split at h
  · rename_i v ys _ _
    cases e3 : flatDs ys with
    | none => rw [e3] at h; cases h
    | some vs => rw [e3] at h; cases h; exact ⟨_, rfl⟩
  · rename_i v ys _ _
    cases e3 : flatDs ys with
    | none => rw [e3] at h; cases h
    | some vs => rw [e3] at h; cases h; exact ⟨_, rfl⟩
  · cases h
theorem g_inQ : OpG X (compareOp .In) gInQ := by
  refine ⟨_, op_in_seq, fun α F H S x y d e z Q hr hx hy hz q => ?_⟩
  obtain ⟨k, rfl⟩ := inQ_bl hz
  obtain ⟨l, us, rfl, a1, a2, a3, rfl⟩ := inQ_ok hr hx hy hz
  exact ⟨l, us, rfl, a1, a2, a3, fin_now hr (.bl _) q⟩
theorem g_notInQ : OpG X (compareOp .NotIn) gNotInQ := by
  refine ⟨_, op_notIn_seq, fun α F H S x y d e z Q hr hx hy hz q => ?_⟩
  unfold gNotInQ at hz
  split at hz
  · rename_i k e0
    cases hz
    obtain ⟨l, us, rfl, a1, a2, a3, rfl⟩ := inQ_ok hr hx hy e0
    exact ⟨l, us, rfl, a1, a2, a3, fin_now hr (.bl _) q⟩
  · cases hz

/-! ### what is walked -/
theorem pi_or {wi wi' : TI} (h : PI X tg e wi) (h' : PI X tg e wi') : PI X tg e (fun σ H R => wi σ H R ∨ wi' σ H R) :=
  ⟨fun pins s σ H R I q => q.elim (h.run pins s σ H R I) (h'.run pins s σ H R I)⟩
theorem it_list {l : Addr} {us : List V} {ds : List D} (h : SqL K F l us) (hv : DVs K mg F α us ds) : ItOk K mg F α (Itl K l) ds where
  go := fun F' H' i a b hi => by
    obtain ⟨v, e1, _⟩ := hv.get (List.getElem?_eq_getElem hi)
    exact ⟨us, v, (a.trans b).sqL h, e1⟩
  stop := fun F' H' a b => ⟨us, (a.trans b).sqL h, by rw [hv.length]; exact Nat.le_refl _⟩
  yld := fun F' H' H2 i x d a b hd ⟨e1, e2⟩ => by
    refine .inl ⟨e1, ?_⟩
    have e3 := e2 us ((a.trans b).sqL h)
    obtain ⟨v, e4, e5⟩ := hv.get hd
    rw [e3] at e4; cases e4
    have := e5.mono (β := []) a
    rw [List.append_nil] at this; exact this
theorem it_tup {l : Addr} {us : List V} {ds : List D} (h : SqT K F l us) (hv : DVs K mg F α us ds) : ItOk K mg F α (Itt K l) ds where
  go := fun F' H' i a b hi => by
    obtain ⟨v, e1, _⟩ := hv.get (List.getElem?_eq_getElem hi)
    exact ⟨us, v, (a.trans b).sqT h, e1⟩
  stop := fun F' H' a b => ⟨us, (a.trans b).sqT h, by rw [hv.length]; exact Nat.le_refl _⟩
  yld := fun F' H' H2 i x d a b hd ⟨e1, e2⟩ => by
    refine .inl ⟨e1, ?_⟩
    have e3 := e2 us ((a.trans b).sqT h)
    obtain ⟨v, e4, e5⟩ := hv.get hd
    rw [e3] at e4; cases e4
    have := e5.mono (β := []) a
    rw [List.append_nil] at this; exact this
theorem it_str (z : Str) : ItOk K mg F α (Its z) (z.cps.toList.map fun c => .str ⟨#[c]⟩) where
  go := fun F' H' i a b hi => by show i < z.cps.size; simpa using hi
  stop := fun F' H' a b => by show z.cps.size ≤ _; simp
  yld := fun F' H' H2 i x d a b hd ⟨e1, c, e2, e3⟩ => by
    subst e3
    refine .inl ⟨e1, ?_⟩
    rw [List.getElem?_map, Array.getElem?_toList, e2] at hd
    cases hd
    exact .str _
theorem it_range (lo hi : Int) : ItOk K mg F α (Itr lo (hi - lo).toNat) (rangeD lo hi) where
  go := fun F' H' i a b h => by show i < (hi - lo).toNat; simpa [rangeD] using h
  stop := fun F' H' a b => by show _ ≤ (rangeD lo hi).length; simp [rangeD]
  yld := fun F' H' H2 i x d a b hd ⟨e1, e2⟩ => by
    subst e2
    refine .inl ⟨e1, ?_⟩
    unfold rangeD at hd
    rw [List.getElem?_map] at hd
    cases q : (List.range (hi - lo).toNat)[i]? with
    | none => rw [q] at hd; cases hd
    | some j =>
      rw [q] at hd; cases hd
      have : j = i := by
        obtain ⟨_, e⟩ := List.getElem?_eq_some_iff.mp q
        simpa using e.symm
      subst this
      exact .int _
theorem pid_seq (ha : PD X W e ra) : PId X W tg e (rSeq ra) := by
  obtain ⟨t, p1, s1⟩ := ha.ex
  refine ⟨_, pi_or (pi_or (pi_list p1) (pi_tup p1)) (pi_str p1), fun α F σ H δ S Q hr hs h => ?_⟩
  unfold rSeq at h
  cases q : ra δ S with
  | err c fs S1 =>
    rw [q] at h
    refine .inl (.inl (s1 α F σ H δ S _ hr hs ?_))
    rw [q]; exact h
  | stuck => rw [q] at h; exact h.elim
  | ok d S1 =>
    rw [q] at h
    cases d with
    | lst ds =>
      refine .inl (.inl (s1 α F σ H δ S _ hr hs ?_))
      rw [q]
      intro v H' β F' r1 st v1
      cases v1 with
      | lst h1 h2 => exact ⟨_, rfl, ⟨_, r1.sub.sqL h1⟩, h _ H' β F' r1 st (it_list h1 h2)⟩
    | tup ds =>
      refine .inl (.inr (s1 α F σ H δ S _ hr hs ?_))
      rw [q]
      intro v H' β F' r1 st v1
      cases v1 with
      | tup h1 h2 => exact ⟨_, rfl, ⟨_, r1.sub.sqT h1⟩, h _ H' β F' r1 st (it_tup h1 h2)⟩
    | str z =>
      refine .inr (s1 α F σ H δ S _ hr hs ?_)
      rw [q]
      intro v H' β F' r1 st v1
      cases v1
      exact ⟨z, rfl, h _ H' β F' r1 st (it_str z)⟩
    | _ => exact (show False from h).elim
theorem pid_range1 (hm : X.mg "range" = none) (ha : PDs X W [a] rs) (hg : Gl X "range" := by rfl) (hs : starEach [a] X.env = [(false, eval a X.env)] := by rfl) : PId X W tg (.Call (.Name "range" p) [a] [] pos) (rRange rs) := by
  obtain ⟨t, p1, s1⟩ := ha.ex
  refine ⟨_, pi_range1 hg hm p1 hs, fun α F σ H δ S Q hr hs h => ?_⟩
  refine s1 α F σ H δ S _ hr hs (wp.bind h fun ds S1 e1 xs H1 β F1 r1 q1 v1 h1 => ?_)
  have hl := ha.len _ _ _ _ e1
  match ds, hl with
  | [d], _ =>
    cases v1 with
    | cons v1 vn =>
      cases vn
      cases d with
      | int j =>
        cases v1
        dsimp only at h1
        split at h1
        · rename_i hc
          refine ⟨j, rfl, hc.1, hc.2, ?_⟩
          have := it_range (K := X.K) (mg := X.mg) (F := F1) (α := α ++ β) 0 j
          rw [Int.sub_zero] at this
          exact h1.now r1 this
        · exact h1.elim
      | _ => exact h1.elim
theorem pid_range2 (hm : X.mg "range" = none) (ha : PDs X W [a, b] rs) (hg : Gl X "range" := by rfl) (hs : starEach [a, b] X.env = [(false, eval a X.env), (false, eval b X.env)] := by rfl) (hs2 : starEach [b] X.env = [(false, eval b X.env)] := by rfl) : PId X W tg (.Call (.Name "range" p) [a, b] [] pos) (rRange rs) := by
  obtain ⟨t, p1, s1⟩ := ha.ex
  refine ⟨_, pi_range2 hg hm p1 hs hs2, fun α F σ H δ S Q hr hs h => ?_⟩
  refine s1 α F σ H δ S _ hr hs (wp.bind h fun ds S1 e1 xs H1 β F1 r1 q1 v1 h1 => ?_)
  have hl := ha.len _ _ _ _ e1
  match ds, hl with
  | [d, d'], _ =>
    cases v1 with
    | cons v1 vn =>
      cases vn with
      | cons v2 vn =>
        cases vn
        cases d with
        | int i =>
          cases d' with
          | int j =>
            cases v1; cases v2
            dsimp only at h1
            split at h1
            · rename_i hc
              exact ⟨i, j, rfl, hc, h1.now r1 (it_range i j)⟩
            · exact h1.elim
          | _ => exact h1.elim
        | _ => exact h1.elim
theorem enumD_get : ∀ {ds : List D} {n i : Nat} {d : D}, (enumD n ds)[i]? = some d → ∃ e, ds[i]? = some e ∧ d = .tup [.int ((n + i : Nat) : Int), e]
  | [], _, _, _, h => by simp [enumD] at h
  | e :: r, n, 0, d, h => by simp [enumD] at h; exact ⟨e, rfl, by rw [← h]; rfl⟩
  | e :: r, n, i + 1, d, h => by
    obtain ⟨e', h1, h2⟩ := enumD_get (ds := r) (n := n + 1) (i := i) (d := d) (by simpa [enumD] using h)
    exact ⟨e', by simpa using h1, by rw [h2]; congr 4; omega⟩
theorem enumD_len : ∀ (n : Nat) (ds : List D), (enumD n ds).length = ds.length
  | _, [] => rfl
  | n, _ :: r => by rw [enumD, List.length_cons, List.length_cons, enumD_len]
theorem it_enum {l : Addr} {us : List V} {ds : List D} (h : SqL K F l us) (hv : DVs K mg F α us ds) : ItOk K mg F α (Ite K l) (enumD 0 ds) where
  go := fun F' H' i a b hi => by
    rw [enumD_len] at hi
    obtain ⟨v, e1, _⟩ := hv.get (List.getElem?_eq_getElem hi)
    exact ⟨us, v, (a.trans b).sqL h, e1⟩
  stop := fun F' H' a b => ⟨us, (a.trans b).sqL h, by rw [hv.length, enumD_len]; exact Nat.le_refl _⟩
  yld := fun F' H' H2 i x d a b hd ⟨T, y, e1, e2, e3, e4⟩ => by
    have e5 := e4 us ((a.trans b).sqL h)
    obtain ⟨e, e6, rfl⟩ := enumD_get hd
    obtain ⟨v, e7, e8⟩ := hv.get e6
    rw [e5] at e7; cases e7
    subst e1
    have nF : F' T = none := by
      cases z : F' T with
      | none => rfl
      | some u => rw [b _ _ z] at e2; cases e2
    refine .inr ⟨T, _, e2, e3, .tup (SqT.of upd_same) (.cons ?_ (.cons ?_ .nil))⟩
    · rw [Nat.zero_add]; exact .int _
    · have := e8.mono (β := []) (a.trans (Sub.new (o := .tup [.int (i : Nat), y]) nF))
      rw [List.append_nil] at this; exact this
theorem pid_enum {elts : List Expr} {kk : Nat} {tpos : Pos} (hm : X.mg "enumerate" = none) (ha : PDs X W [e] rs) (hg : Gl X "enumerate" := by rfl) (hs : starEach [e] X.env = [(false, eval e X.env)] := by rfl) : PId X W (.Tuple elts kk tpos) (.Call (.Name "enumerate" p) [e] [] pos) (rEnum rs) := by
  obtain ⟨t, p1, s1⟩ := ha.ex
  refine ⟨_, pi_enum hg hm p1 hs, fun α F σ H δ S Q hr hs h => ?_⟩
  refine s1 α F σ H δ S _ hr hs (wp.bind h fun ds S1 e1 xs H1 β F1 r1 q1 v1 h1 => ?_)
  have hl := ha.len _ _ _ _ e1
  match ds, hl with
  | [d], _ =>
    cases v1 with
    | cons v1 vn =>
      cases vn
      cases d with
      | lst ys =>
        cases v1 with
        | lst a1 a2 => exact ⟨_, _, rfl, r1.sub.sqL a1, h1.now r1 (it_enum a1 a2)⟩
      | _ => exact h1.elim
theorem zipD_get : ∀ {xs ys : List D} {i : Nat} {d : D}, (zipD xs ys)[i]? = some d → ∃ x y, xs[i]? = some x ∧ ys[i]? = some y ∧ d = .tup [x, y]
  | a :: as, b :: bs, 0, d, h => by simp [zipD] at h; exact ⟨a, b, rfl, rfl, h.symm⟩
  | a :: as, b :: bs, i + 1, d, h => by
    obtain ⟨x, y, h1, h2, h3⟩ := zipD_get (xs := as) (ys := bs) (i := i) (d := d) (by simpa [zipD] using h)
    exact ⟨x, y, by simpa using h1, by simpa using h2, h3⟩
  | [], _, _, _, h => by simp [zipD] at h
  | _ :: _, [], _, _, h => by simp [zipD] at h
theorem zipD_len : ∀ xs ys : List D, (zipD xs ys).length = min xs.length ys.length
  | a :: as, b :: bs => by rw [zipD, List.length_cons, zipD_len, List.length_cons, List.length_cons]; omega
  | [], _ => by simp [zipD]
  | _ :: _, [] => by simp [zipD]
theorem it_zip {l m : Addr} {us ws : List V} {ds es : List D} (h : SqL K F l us) (hv : DVs K mg F α us ds) (g : SqL K F m ws) (gv : DVs K mg F α ws es) : ItOk K mg F α (Itz K l m) (zipD ds es) where
  go := fun F' H' i a b hi => by
    rw [zipD_len] at hi
    obtain ⟨v, e1, _⟩ := hv.get (List.getElem?_eq_getElem (by omega : i < ds.length))
    obtain ⟨u, e2, _⟩ := gv.get (List.getElem?_eq_getElem (by omega : i < es.length))
    exact ⟨us, ws, v, u, (a.trans b).sqL h, (a.trans b).sqL g, e1, e2⟩
  stop := fun F' H' a b => ⟨us, ws, (a.trans b).sqL h, (a.trans b).sqL g, by rw [hv.length, gv.length, zipD_len]; omega⟩
  yld := fun F' H' H2 i x d a b hd ⟨T, y, y2, e1, e2, e3, e4, e5⟩ => by
    have f1 := e4 us ((a.trans b).sqL h)
    have f2 := e5 ws ((a.trans b).sqL g)
    obtain ⟨p, q, e6, e7, rfl⟩ := zipD_get hd
    obtain ⟨v, e8, e9⟩ := hv.get e6
    rw [f1] at e8; cases e8
    obtain ⟨v2, e10, e11⟩ := gv.get e7
    rw [f2] at e10; cases e10
    subst e1
    have nF : F' T = none := by
      cases z : F' T with
      | none => rfl
      | some u => rw [b _ _ z] at e2; cases e2
    have sb := a.trans (Sub.new (o := .tup [y, y2]) nF)
    refine .inr ⟨T, _, e2, e3, .tup (SqT.of upd_same) (.cons ?_ (.cons ?_ .nil))⟩
    · have := e9.mono (β := []) sb
      rw [List.append_nil] at this; exact this
    · have := e11.mono (β := []) sb
      rw [List.append_nil] at this; exact this
theorem pid_zip {elts : List Expr} {kk : Nat} {tpos : Pos} (hm : X.mg "zip" = none) (ha : PDs X W [a, b] rs) (hg : Gl X "zip" := by rfl) (hs : starEach [a, b] X.env = (false, eval a X.env) :: starEach [b] X.env := by rfl) (hpl : (backTo pos (starEach [b] X.env)).any (·.1) = false := by rfl) : PId X W (.Tuple elts kk tpos) (.Call (.Name "zip" p) [a, b] [] pos) (rZip rs) := by
  obtain ⟨t, p1, s1⟩ := ha.ex
  refine ⟨_, pi_zip hg hm p1 hs hpl, fun α F σ H δ S Q hr hs h => ?_⟩
  refine s1 α F σ H δ S _ hr hs (wp.bind h fun ds S1 e1 xs H1 β F1 r1 q1 v1 h1 => ?_)
  have hl := ha.len _ _ _ _ e1
  match ds, hl with
  | [d, d'], _ =>
    cases v1 with
    | cons v1 vn =>
      cases vn with
      | cons v2 vn =>
        cases vn
        cases d with
        | lst ys =>
          cases d' with
          | lst zs =>
            cases v1 with
            | lst a1 a2 => cases v2 with
              | lst b1 b2 => exact ⟨_, _, _, _, rfl, r1.sub.sqL a1, r1.sub.sqL b1, h1.now r1 (it_zip a1 a2 b1 b2)⟩
          | _ => exact h1.elim
        | _ => exact h1.elim
/-! ### targets from a list, two names at once -/
theorem pgn_unl {k : Nat} {u : List D → Sl → Sto → Res Sl} (hc : X.calm = true) (h : PGds X W es u) (hn : (assignEach es X.env).length = es.length := by rfl) (hst : (assignEach es X.env).findIdx? (·.1) = none := by rfl) : PGn X W (.Tuple es k pos) (gUnl u) := by
  obtain ⟨t, p1, s1⟩ := h.ex
  refine ⟨⟨_, pg_unl hc p1 hn hst, fun α F σ H δ S v d Q hr hs hv h0 => ?_⟩, fun d δ S c fs S' h0 => ?_⟩
  · unfold gUnl at h0
    cases q : deref S d with
    | lst ds =>
      rw [q] at h0
      dsimp only at h0
      obtain ⟨a, xs, e1, e2, e3⟩ := hr.viewL hv q
      have len : ds.length = es.length := by
        cases q2 : u ds δ S with
        | ok δ' S' => exact h.len _ _ _ _ _ q2
        | err c fs S' => exact absurd q2 (h.ne _ _ _ _ _ _)
        | stuck => rw [q2] at h0; exact h0.elim
      exact ⟨a, xs, e1, e2, by rw [e3.length]; exact len, s1 α F σ H δ S xs ds Q hr hs e3 h0⟩
    | _ => rw [q] at h0; exact h0.elim
  · unfold gUnl at h0
    cases q : deref S d with
    | lst ds => rw [q] at h0; exact h.ne _ _ _ _ _ _ h0
    | _ => rw [q] at h0; cases h0
theorem psd_par {i j : Nat} {x y : Str} {px py pt : Pos} {kt k2 : Nat} {pt2 : Pos} (hc : X.calm = true) (hN : X.N.Nodup) (ha : PDs X W [a, b] rs) (hij : i ≠ j := by decide) (hi : X.N[i]? = some x := by rfl) (hj : X.N[j]? = some y := by rfl) (hx : X.env.scope.names.lookup x = some .local := by rfl) (hy : X.env.scope.names.lookup y = some .local := by rfl)
    (hw : swappedStores [.Tuple [.Name x px, .Name y py] kt pt] (.Tuple [a, b] k2 pt2) X.env = pure (some [x, y]) := by rfl) : PSd X W (.Assign [.Tuple [.Name x px, .Name y py] kt pt] (.Tuple [a, b] k2 pt2) pos) (sPar i j rs) := by
  obtain ⟨t, p1, s1⟩ := ha.ex
  refine ⟨_, ps_par hc hN hi hj hij hx hy p1 hw, fun α F σ H δ S E hr hs h => ?_⟩
  refine s1 α F σ H δ S _ hr hs (wpS.out h hs fun ds S1 e1 xs H1 β F1 r1 q1 v1 h1 => ?_)
  have hl := ha.len _ _ _ _ e1
  match ds, hl with
  | [d, d'], _ =>
    cases v1 with
    | cons v1 vn =>
      cases vn with
      | cons v2 vn =>
        cases vn
        dsimp only at h1
        split at h1
        · exact ⟨_, _, rfl, h1.nx r1 (((hs.mono q1.sub).set v1).set v2)⟩
        · exact h1.elim
end
end DL

set_option Elab.async false
set_option linter.all false
set_option maxRecDepth 100000
set_option maxHeartbeats 4000000
set_option autoImplicit false
/-! Data layer, twelfth part: lists that are made, dicts. -/
namespace DL
open PySem PySem.Spec PyProof.Rows L2

def keyEq : D → D → Bool
  | .int i, .int j => i == j
  | .str x, .str y => decide (x = y)
  | _, _ => false
def lookD : List (D × D) → D → Option D
  | [], _ => none
  | (k, v) :: r, q => if keyEq k q then some v else lookD r q
def replD : List (D × D) → D → D → List (D × D)
  | [], _, _ => []
  | (k, v) :: r, q, y => if keyEq k q then (k, y) :: replD r q y else (k, v) :: replD r q y
def putD (kvs : List (D × D)) (q y : D) : List (D × D) := if (lookD kvs q).isSome then replD kvs q y else kvs ++ [(q, y)]
def mergeD (kvs more : List (D × D)) : List (D × D) := more.foldl (fun acc kv => putD acc kv.1 kv.2) kvs
def isKey : D → Bool
  | .int _ => true
  | .str _ => true
  | _ => false
def gGet : Sto → D → D → Option D := fun S d k => if isKey k then (match deref S d with
  | .dct kvs => lookD kvs k
  | _ => none) else none
def gInK : Sto → D → D → Option D := fun S k d => if isKey k then (match deref S d with
  | .dct kvs => some (.bl (lookD kvs k).isSome)
  | _ => none) else none
def gNotInK : Sto → D → D → Option D := fun S k d => if isKey k then (match deref S d with
  | .dct kvs => some (.bl (!(lookD kvs k).isSome))
  | _ => none) else none
/-- pairs of a display, from the left -/
def rPairs : List (RE × RE) → Sl → Sto → Res (List (D × D))
  | [], _, S => .ok [] S
  | (k, v) :: r, δ, S => (k δ S).bind fun x S1 => (v δ S1).bind fun y S2 => (rPairs r δ S2).bind fun ps S3 => .ok ((x, y) :: ps) S3
def rDisp (ps : List (RE × RE)) : RE := fun δ S => (rPairs ps δ S).bind fun kvs S1 => if kvs.all (fun p => isKey p.1) && decide (kvs.length ≤ 15) then .ok (.dct (mergeD [] kvs)) S1 else .stuck
/-- d[k] = v -/
def sPut (d k v : RE) : RS := fun δ S => (v δ S).out δ fun z S1 => (d δ S1).out δ fun x S2 => (k δ S2).out δ fun y S3 => match x with
  | .ptr n => (match S3[n]? with
    | some (.dct kvs) => if isKey y && decide (kvs.length < sizeLine) then .nx δ (S3.set n (.dct (putD kvs y z))) else .stuck
    | _ => .stuck)
  | _ => .stuck
/-- xs[i] = v -/
def sSetL (d k v : RE) : RS := fun δ S => (v δ S).out δ fun z S1 => (d δ S1).out δ fun x S2 => (k δ S2).out δ fun y S3 => match x, y with
  | .ptr n, .int i => (match S3[n]? with
    | some (.lst xs) => (match ixN xs.length i with
      | some j => .nx δ (S3.set n (.lst (xs.set j z)))
      | none => .stuck)
    | _ => .stuck)
  | _, _ => .stuck
def gList : Sto → List D → Option D := fun S ds => match ds with
  | [d] => (match deref S d with
    | .lst xs => some (.lst xs)
    | .tup xs => some (.lst xs)
    | .str z => if z.cps.size ≤ sizeLine then some (.lst (z.cps.toList.map fun c => .str ⟨#[c]⟩)) else none
    | _ => none)
  | _ => none
def gSplit : Sto → D → List D → Option D := fun _ d ds => match d, ds with
  | .str a, [.str b] => if (b.length == 0) = false ∧ a.length + 2 ≤ sizeLine then some (.lst ((Txt.split a b).map .str)) else none
  | _, _ => none
def gTuple : Sto → List D → Option D := fun S ds => match ds with
  | [d] => (match deref S d with
    | .lst xs => some (.tup xs)
    | .tup xs => some (.tup xs)
    | _ => none)
  | _ => none

section
variable {X : Cx} {W : WX} {a b c e tg : Expr} {es rest : List Expr} {ra rb rc : RE} {ba bb : RB} {rs : RA} {pos p : Pos} {K : Fg} {mg : Str → Option Value} {α β : List Addr} {F F1 H H1 : Hp} {S : Sto}
/-! ### made by operators, calls, methods -/
theorem wpF.now {d : D} {Q : VK} {W : XK} {ad : Addr} {o : HO} (h : wpF K mg α F H (.ok d S) Q W) (hr : Rel K mg α F H S) (hp : H ad = none) (ho : Own K mg F α (upd H ad o) ad d) (hd : d ≠ .non) : Q (.ref ad) (upd H ad o) := h.lay hr hp ho hd
/-- by a list that is laid at a new place -/
def Lays (H : Hp) (xs : List V) (Q : VK) : Prop := ∀ p, H p = none → Q (.ref p) (upd H p (.lst xs))
theorem pf_bin {op : Operator} {g : Sto → D → D → Option D} {r : R2} (ho : OpR X (binaryOp op) r) (hg : ∀ α F H S x y d e z Q, Rel X.K X.mg α F H S → DV X.K X.mg F α x d → DV X.K X.mg F α y e → g S d e = some z → ∃ ds xs, z = .lst ds ∧ DVs X.K X.mg F α xs ds ∧ (Lays H xs Q → r x y H Q)) (ha : PD X W a ra) (hb : PD X W b rb) :
    PF X W (.BinOp a op b pos) (rBin g ra rb) := by
  obtain ⟨ta, pa, sa⟩ := ha.ex
  obtain ⟨tb, pb, sb⟩ := hb.ex
  refine ⟨_, pe_op ho pa pb, fun α F σ H δ S Q hr hs h => ?_⟩
  refine sa α F σ H δ S _ hr hs (wpF.bind h fun d S1 _ x H1 β F1 r1 s1 v1 h1 => ?_)
  refine sb (α ++ β) F1 σ H1 δ S1 _ r1 (hs.mono s1.sub) (wpF.bind h1 fun e S2 _ y H2 γ F2 r2 s2 v2 h2 => ?_)
  cases eg : g S2 d e with
  | none => rw [eg] at h2; exact h2.elim
  | some z =>
    rw [eg] at h2
    obtain ⟨ds, xs, rfl, e1, e2⟩ := hg _ F2 H2 S2 x y d e z Q r2 (v1.mono s2.sub) v2 eg
    exact e2 fun p hp => wpF.lay h2 r2 hp ⟨xs, upd_same, e1⟩ (by intro z; cases z)
theorem op_catR : OpR X (binaryOp .Add) (fun x y H Q => ∃ l m xs zs, x = .ref l ∧ y = .ref m ∧ SqL X.K H l xs ∧ SqL X.K H m zs ∧ xs.length + zs.length ≤ sizeLine ∧ Lays H (xs ++ zs) Q) := by
  intro pins s σ H x y v u Q I rx ry h
  obtain ⟨l, m, xs, zs, rfl, rfl, h1, h2, hz, q⟩ := h
  cases rx; cases ry
  obtain ⟨its, r, ⟨o1, n1, g1, c1, _, w1⟩, _⟩ := I.list h1
  obtain ⟨its2, r2, ⟨o2, n2, g2, c2, _, w2⟩, _⟩ := I.list h2
  obtain ⟨k1, dd1, dt1, sl1⟩ := o1
  obtain ⟨k2, dd2, dt2, sl2⟩ := o2
  simp only at c1 c2 w1 w2
  subst c1 c2 w1 w2
  have l1 := r.length
  have l2 := r2.length
  have sz : its.toArray.size + its2.toArray.size ≤ sizeLine := by rw [List.size_toArray, List.size_toArray]; omega
  refine concat_meets ⟨_, g1, rfl⟩ ⟨_, g2, rfl⟩ noFill_list_add seq_list_add PySem.F.slot_list_add PySem.F.entry_list_add (PySem.F.args_list_add_2 _ _) (list_addW l m its.toArray its2.toArray n1 n2 dd1 dd2 sl1 sl2 sz) ⟨g1, g2, ?_⟩
  rw [show its.toArray ++ its2.toArray = (its ++ its2).toArray by simp]
  exact ⟨.ref s.heap.objs.size, _, I.lnew (t' := s.toks) (r.append r2) (by simp; omega), rfl, q _ I.fresh⟩
theorem pf_cat (ha : PD X W a ra) (hb : PD X W b rb) : PF X W (.BinOp a .Add b pos) (rBin gCat ra rb) := pf_bin op_catR (fun α F H S x y d e z Q hr hx hy hz => by
  unfold gCat at hz
  split at hz
  · rename_i xs ys e1 e2
    split at hz
    · rename_i hl
      cases hz
      obtain ⟨l, us, rfl, a1, a2⟩ := hr.viewL hx e1
      obtain ⟨m, ws, rfl, b1, b2⟩ := hr.viewL hy e2
      exact ⟨_, us ++ ws, rfl, a2.append b2, fun q => ⟨l, m, us, ws, rfl, rfl, a1, b1, by rw [a2.length, b2.length]; exact hl, q⟩⟩
    · cases hz
  · cases hz) ha hb
theorem DVs.rep {us : List V} {xs : List D} (h : DVs K mg F α us xs) : ∀ n : Nat, DVs K mg F α (List.replicate n us).flatten (List.replicate n xs).flatten
  | 0 => .nil
  | n + 1 => by
    rw [List.replicate_succ, List.replicate_succ, List.flatten_cons, List.flatten_cons]
    exact h.append (DVs.rep h n)
/-- a list, laid new, times a number -/
def gRepF : Sto → D → D → Option D := fun _ d e => match d, e with
  | .lst xs, .int k => if -(2 ^ 63) ≤ k ∧ k < 2 ^ 63 ∧ xs.length * k.toNat ≤ sizeLine then some (.lst (List.replicate k.toNat xs).flatten) else none
  | _, _ => none
theorem pf_rep (ha : PF X W a ra) (hb : PD X W b rb) : PF X W (.BinOp a .Mult b pos) (rBin gRepF ra rb) := by
  obtain ⟨ta, pa, sa⟩ := ha.ex
  obtain ⟨tb, pb, sb⟩ := hb.ex
  refine ⟨_, pe_op op_rep pa pb, fun α F σ H δ S Q hr hs h => ?_⟩
  refine sa α F σ H δ S _ hr hs ?_
  unfold rBin at h
  cases q : ra δ S with
  | err c fs S1 => rw [q] at h; exact h
  | stuck => rw [q] at h; exact h
  | ok d S1 =>
    rw [q] at h
    intro ad H1 β F1 r1 s1 hp hα hf ho hd
    have h1 : wpF X.K X.mg (α ++ β) F1 H1 ((rb δ S1).bind fun y S2 => .lift (gRepF S2 d y) S2) Q _ := wpF.step s1 h
    refine sb (α ++ β) F1 σ H1 δ S1 _ r1 (hs.mono s1.sub) (wpF.bind h1 fun e S2 _ y H2 γ F2 r2 s2 v2 h2 => ?_)
    cases eg : gRepF S2 d e with
    | none => rw [eg] at h2; exact h2.elim
    | some z =>
      rw [eg] at h2
      cases d with
      | lst xs =>
        cases e with
        | int k =>
          unfold gRepF at eg
          dsimp only at eg
          split at eg
          · rename_i hl
            cases eg
            cases v2
            obtain ⟨us, o1, o2⟩ := ho
            refine ⟨ad, k, us, rfl, rfl, s2.frame ad _ hα o1, hl.1, hl.2.1, by rw [o2.length]; exact hl.2.2, fun p' hp' => ?_⟩
            exact wpF.lay h2 r2 hp' ⟨_, upd_same, (o2.mono s2.sub).rep _⟩ (by intro z; cases z)
          · cases eg
        | _ => cases eg
      | _ => cases eg
/-- by a call of a built-in class, by a method -/
theorem pf_callT {x : Str} {T : String} {g : Sto → List D → Option D} {r : List V → Hp → VK → Prop} (hc : CallR X (.type T) r) (hgk : ∀ α F H S xs ds z Q, Rel X.K X.mg α F H S → DVs X.K X.mg F α xs ds → g S ds = some z → ∃ es us, z = .lst es ∧ DVs X.K X.mg F α us es ∧ (Lays H us Q → r xs H Q))
    (hm : X.mg x = none) (ha : PDs X W (e :: es) rs) (hg : Gl X x := by rfl) (hv : bootBuiltins x = some (.type T) := by decide +kernel) (hn : x ≠ "__name__" := by decide) (hdb : (x == ("__debug__" : Str)) = false := by decide)
    (he : starEach (e :: es) X.env = (false, eval e X.env) :: starEach es X.env := by rfl) (hpl : (backTo pos (starEach es X.env)).any (·.1) = false := by rfl) : PF X W (.Call (.Name x p) (e :: es) [] pos) (rAs g rs) := by
  obtain ⟨t, pt, st⟩ := ha.ex
  refine ⟨_, pe_callTy hc hg hm hv pt hn hdb he hpl, fun α F σ H δ S Q hr hs h => ?_⟩
  refine st α F σ H δ S _ hr hs (wpF.bind h fun ds S1 _ xs H1 β F1 r1 q1 v1 h1 => ?_)
  cases eg : g S1 ds with
  | none => rw [eg] at h1; exact h1.elim
  | some z =>
    rw [eg] at h1
    obtain ⟨es', us, rfl, e1, e2⟩ := hgk _ F1 H1 S1 xs ds z Q r1 v1 eg
    exact e2 fun p hp => wpF.lay h1 r1 hp ⟨us, upd_same, e1⟩ (by intro z; cases z)
theorem call_listS (hc : X.calm = true) : CallR X (.type "list") (fun xs H Q => ∃ z, xs = [.str z] ∧ z.cps.size ≤ sizeLine ∧ Lays H (z.cps.toList.map fun c => .str ⟨#[c]⟩) Q) := by
  intro pins s σ H xs us Q I rv h
  obtain ⟨z, rfl, hz, q⟩ := h
  obtain ⟨u, rfl, ru⟩ := vals1 rv
  obtain ⟨t, rfl⟩ := ru
  refine call_list_str (I.ok.hd hc) z t (fun h' tk acc c k e it => ?_) hz
  have hv : Vals (z.cps.toList.map fun c => V.str ⟨#[c]⟩) acc.toList := by
    refine vals_of_at (by simp [it.1]) fun j x u h1 h2 => ?_
    rw [Array.getElem?_toList] at h2
    obtain ⟨c, t', e1, e2⟩ := it.2 j u h2
    rw [List.getElem?_map, Array.getElem?_toList, e1] at h1
    cases h1
    exact ⟨t', e2⟩
  have nw : ObjOk X.prog X.w (upd H s.heap.objs.size (.lst (z.cps.toList.map fun c => V.str ⟨#[c]⟩))) h' s.heap.objs.size (.lst (z.cps.toList.map fun c => V.str ⟨#[c]⟩)) := ⟨by simpa using hz, acc.toList, c, hv, by simpa using e⟩
  exact ⟨.ref s.heap.objs.size, _, I.laid (t' := tk) k (Nat.le_refl _) nw, rfl, q _ I.fresh⟩
theorem pf_list (hc : X.calm = true) (hm : X.mg "list" = none) (ha : PDs X W (e :: es) rs) (hg : Gl X "list" := by rfl) (he : starEach (e :: es) X.env = (false, eval e X.env) :: starEach es X.env := by rfl) (hpl : (backTo pos (starEach es X.env)).any (·.1) = false := by rfl) :
    PF X W (.Call (.Name "list" p) (e :: es) [] pos) (rAs gList rs) := pf_callT (call_list_of.or (call_listS hc)) (fun α F H S xs ds z Q hr hv hz => by
  unfold gList at hz
  split at hz
  · cases hv with
    | cons h1 h2 =>
      cases h2
      split at hz
      · rename_i ys e1
        cases hz
        obtain ⟨l, us, rfl, a1, a2⟩ := hr.viewL h1 e1
        exact ⟨_, us, rfl, a2, fun q => .inl ⟨l, us, rfl, .inl a1, q⟩⟩
      · rename_i ys e1
        cases hz
        obtain ⟨l, us, rfl, a1, a2⟩ := hr.viewT h1 e1
        exact ⟨_, us, rfl, a2, fun q => .inl ⟨l, us, rfl, .inr a1, q⟩⟩
      · rename_i zz e1
        split at hz
        · rename_i hl
          cases hz
          have := hr.viewS h1 e1
          subst this
          refine ⟨_, zz.cps.toList.map fun c => .str ⟨#[c]⟩, rfl, ?_, fun q => .inr ⟨zz, rfl, hl, q⟩⟩
          have := DVs.of_strs (K := X.K) (mg := X.mg) (F := F) (α := α) (zz.cps.toList.map fun c => (⟨#[c]⟩ : Str))
          rw [List.map_map, List.map_map] at this
          exact this
        · cases hz
      · cases hz
  · cases hz) hm ha hg (by decide +kernel) (by decide) (by decide) he hpl
theorem b_tuple : BiG X (.type "tuple") gTuple := by
  refine ⟨_, call_tuple_of, fun α F H S xs ds z Q hr hv hz q => ?_⟩
  unfold gTuple at hz
  split at hz
  · cases hv with
    | cons h1 h2 =>
      cases h2
      split at hz
      · rename_i ys e1
        cases hz
        obtain ⟨l, us, rfl, a1, a2⟩ := hr.viewL h1 e1
        refine ⟨l, us, rfl, .inl ⟨a1, fun p hp => ?_⟩⟩
        obtain ⟨c1, c2, c3⟩ := hr.tup a2 hp
        exact q _ _ _ _ c1 c2 c3
      · rename_i ys e1
        cases hz
        obtain ⟨l, us, rfl, a1, a2⟩ := hr.viewT h1 e1
        have sx := hr.see h1
        rw [e1] at sx
        cases sx with
        | «at» h _ => exact ⟨l, us, rfl, .inr ⟨a1, fin_now hr h q⟩⟩
      · cases hz
  · cases hz
def rSplit (ro rf : RE) : RE := fun δ S => (ro δ S).bind fun x S1 => match x with
  | .str _ => (rf δ S1).bind fun y S2 => .lift (gSplit S2 x [y]) S2
  | _ => .stuck
theorem pf_split {o f : Expr} {ro rf : RE} {apos cpos : Pos} (ho : PD X W o ro) (hf : PD X W f rf) (hs : starEach [f] X.env = [(false, eval f X.env)] := by rfl) (hbase : attributeBase o "split" X.env (eval o X.env) = eval o X.env := by rfl) (hline : (apos.endLine == cpos.line) = true := by rfl) :
    PF X W (.Call (.Attribute o "split" apos) [f] [] cpos) (rSplit ro rf) := by
  obtain ⟨to, po, so⟩ := ho.ex
  obtain ⟨tf, pf, sf⟩ := hf.ex
  refine ⟨_, pe_split po pf hs hbase hline, fun α F σ H δ S Q hr hs h => ?_⟩
  refine so α F σ H δ S _ hr hs (wpF.bind h fun d S1 _ x H1 β F1 r1 q1 v1 h1 => ?_)
  cases d with
  | str z =>
    cases v1
    refine ⟨⟨z, rfl⟩, ?_⟩
    refine sf (α ++ β) F1 σ H1 δ S1 _ r1 (hs.mono q1.sub) (wpF.bind h1 fun e S2 _ y H2 γ F2 r2 q2 v2 h2 => ?_)
    cases eg : gSplit S2 (.str z) [e] with
    | none => rw [eg] at h2; exact h2.elim
    | some zz =>
      rw [eg] at h2
      unfold gSplit at eg
      split at eg
      · rename_i a b q3 q4
        cases q3; cases q4
        split at eg
        · rename_i hl
          cases eg
          cases v2
          exact ⟨_, _, rfl, rfl, hl.1, hl.2, fun p hp => wpF.lay h2 r2 hp ⟨_, upd_same, DVs.of_strs _⟩ (by intro z; cases z)⟩
        · cases eg
      · cases eg
  | _ => exact h1.elim
end
end DL

set_option Elab.async false
set_option linter.all false
set_option maxRecDepth 100000
set_option maxHeartbeats 4000000
set_option autoImplicit false
/-! Data layer, thirteenth part: dicts by numbers and texts; an item stored. -/
namespace DL
open PySem PySem.Spec PyProof.Rows L2

def kD : Key → D
  | .inl i => .int i
  | .inr x => .str x
theorem isKey_kD {d : D} (h : isKey d = true) : ∃ k, d = kD k := by
  cases d with
  | int i => exact ⟨.inl i, rfl⟩
  | str x => exact ⟨.inr x, rfl⟩
  | _ => cases h
theorem keyEq_kD (a b : Key) : keyEq (kD a) (kD b) = decide (a = b) := by
  cases a with
  | inl i => cases b with
    | inl j => show (i == j) = _; rw [key_ll]
    | inr y => show false = _; rw [key_lr]
  | inr x => cases b with
    | inl j => show false = _; rw [key_rl]
    | inr y => show decide (x = y) = _; rw [key_rr]
section
variable {X : Cx} {W : WX} {a b c e tg : Expr} {es rest : List Expr} {ra rb rc : RE} {ba bb : RB} {rs : RA} {pos p : Pos} {K : Fg} {mg : Str → Option Value} {α β : List Addr} {F F1 H H1 : Hp} {S : Sto}
theorem kD_DV {k : Key} {v : V} (h : DV K mg F α v (kD k)) : v = kV k := by cases k <;> cases h <;> rfl
/-- a dict's pairs -/
inductive KVs (K : Fg) (mg : Str → Option Value) (F : Hp) (α : List Addr) : List (Key × V) → List (D × D) → Prop
  | nil : KVs K mg F α [] []
  | cons {k : Key} {v : V} {d : D} {ws : List (Key × V)} {kvs : List (D × D)} : DV K mg F α v d → KVs K mg F α ws kvs → KVs K mg F α ((k, v) :: ws) ((kD k, d) :: kvs)
theorem KVs.of : ∀ {ws : List (Key × V)} {kvs : List (D × D)}, DKs (ws.map (·.1)) (kvs.map (·.1)) → DVs K mg F α (ws.map (·.2)) (kvs.map (·.2)) → KVs K mg F α ws kvs
  | [], [], _, _ => .nil
  | [], _ :: _, h, _ => by have := h.length; simp at this
  | _ :: _, [], h, _ => by have := h.length; simp at this
  | (k, v) :: ws, (q, d) :: kvs, h, g => by
    have h' : DKs (k :: ws.map (·.1)) (q :: kvs.map (·.1)) := h
    have g' : DVs K mg F α (v :: ws.map (·.2)) (d :: kvs.map (·.2)) := g
    cases g' with
    | cons g1 g2 =>
      cases h' with
      | int h2 => exact .cons (k := .inl _) g1 (KVs.of h2 g2)
      | str h2 => exact .cons (k := .inr _) g1 (KVs.of h2 g2)
theorem KVs.keys {ws : List (Key × V)} {kvs : List (D × D)} (h : KVs K mg F α ws kvs) : DKs (ws.map (·.1)) (kvs.map (·.1)) := by
  induction h with
  | nil => exact .nil
  | @cons k v d ws kvs _ _ ih => cases k with
    | inl i => exact .int ih
    | inr x => exact .str ih
theorem KVs.vals {ws : List (Key × V)} {kvs : List (D × D)} (h : KVs K mg F α ws kvs) : DVs K mg F α (ws.map (·.2)) (kvs.map (·.2)) := by
  induction h with
  | nil => exact .nil
  | cons h _ ih => exact .cons h ih
theorem KVs.length {ws : List (Key × V)} {kvs : List (D × D)} (h : KVs K mg F α ws kvs) : ws.length = kvs.length := by
  have := h.vals.length
  simpa using this
theorem KVs.look {ws : List (Key × V)} {kvs : List (D × D)} (h : KVs K mg F α ws kvs) (k : Key) : (∀ d, lookD kvs (kD k) = some d → ∃ v, valV ws k = some v ∧ DV K mg F α v d) ∧ (lookD kvs (kD k) = none → valV ws k = none) := by
  induction h with
  | nil => exact ⟨(fun d e => by cases e), fun _ => rfl⟩
  | @cons j v d ws kvs h _ ih =>
    unfold lookD
    rw [keyEq_kD]
    by_cases q : j = k
    · subst q
      rw [decide_eq_true rfl, if_pos rfl, valV_pos (p := (j, v)) rfl]
      exact ⟨(fun e z => by cases z; exact ⟨v, rfl, h⟩), fun z => by cases z⟩
    · rw [decide_eq_false q, if_neg (by decide), valV_neg (p := (j, v)) q]
      exact ih
theorem KVs.isSome {ws : List (Key × V)} {kvs : List (D × D)} (h : KVs K mg F α ws kvs) (k : Key) : (lookD kvs (kD k)).isSome = (valV ws k).isSome := by
  obtain ⟨h1, h2⟩ := h.look k
  cases e : lookD kvs (kD k) with
  | none => rw [h2 e]; rfl
  | some d => obtain ⟨v, e1, _⟩ := h1 d e; rw [e1]; rfl
theorem KVs.append {ws ws' : List (Key × V)} {kvs kvs' : List (D × D)} (h : KVs K mg F α ws kvs) (g : KVs K mg F α ws' kvs') : KVs K mg F α (ws ++ ws') (kvs ++ kvs') := by
  induction h with
  | nil => exact g
  | cons h _ ih => exact .cons h ih
theorem KVs.put {ws : List (Key × V)} {kvs : List (D × D)} (h : KVs K mg F α ws kvs) (k : Key) {v : V} {d : D} (hv : DV K mg F α v d) : KVs K mg F α (putK ws k v) (putD kvs (kD k) d) := by
  unfold putK putD
  rw [h.isSome k, valV_any]
  by_cases q : (valV ws k).isSome = true
  · rw [if_pos q, if_pos q]
    clear q
    induction h with
    | nil => exact .nil
    | @cons j u e ws kvs h1 _ ih =>
      rw [List.map_cons]
      unfold replD
      rw [keyEq_kD]
      by_cases z : j = k
      · subst z
        rw [decide_eq_true rfl, if_pos rfl, if_pos rfl]
        exact .cons hv ih
      · rw [if_neg (show ¬ (j, u).1 = k from z), decide_eq_false z, if_neg (show ¬ false = true by decide)]
        exact .cons h1 ih
  · rw [if_neg q, if_neg q]
    exact h.append (.cons hv .nil)
theorem KVs.merge {more : List (Key × V)} {mk : List (D × D)} (g : KVs K mg F α more mk) : ∀ {ws : List (Key × V)} {kvs : List (D × D)}, KVs K mg F α ws kvs → KVs K mg F α (mergeK ws more) (mergeD kvs mk) := by
  induction g with
  | nil => exact fun h => h
  | cons h1 _ ih => exact fun h => ih (h.put _ h1)
theorem Own.dctK {ad : Addr} {kvs : List (D × D)} : Own K mg F α H ad (.dct kvs) ↔ ∃ ws, H ad = some (.dK ws) ∧ KVs K mg F α ws kvs :=
  ⟨fun ⟨ws, h1, h2, h3⟩ => ⟨ws, h1, .of h2 h3⟩, fun ⟨ws, h1, h2⟩ => ⟨ws, h1, h2.keys, h2.vals⟩⟩
theorem Rel.viewD (hr : Rel K mg α F H S) {v : V} {d : D} {kvs : List (D × D)} (h : DV K mg F α v d) (e : deref S d = .dct kvs) : ∃ a ws, v = .ref a ∧ Rd H a (.dK ws) ∧ KVs K mg F α ws kvs := by
  have s := hr.see h
  rw [e] at s
  cases s with
  | «at» h _ => cases h with
    | dct q e1 e2 k t =>
      subst e1; subst e2
      exact ⟨_, _, rfl, .inr ⟨_, hr.sub _ _ q⟩, .of k t⟩
  | dct q k t => exact ⟨_, _, rfl, .inl q, .of k t⟩
theorem pd_get (hu : X.A.units + 1 < cLine) (ha : PD X W a ra) (hb : PD X W b rb) (hs : NoSl b := by intro _ _; rfl) : PD X W (.Subscript a b pos) (rBin gGet ra rb) := by
  obtain ⟨ta, pa, sa⟩ := ha.ex
  obtain ⟨tb, pb, sb⟩ := hb.ex
  refine ⟨_, pe_dget hu pa pb hs, sa.bin sb fun α F H S x y d e z Q hr hx hy hz q => ?_⟩
  unfold gGet at hz
  split at hz
  · rename_i hk
    obtain ⟨k, rfl⟩ := isKey_kD hk
    split at hz
    · rename_i kvs e1
      obtain ⟨l, ws, rfl, a1, a2⟩ := hr.viewD hx e1
      obtain ⟨v, e2, e3⟩ := (a2.look k).1 z hz
      have := kD_DV hy
      subst this
      exact ⟨l, v, rfl, .inl ⟨ws, k, a1, rfl, e2.symm⟩, fin_now hr e3 q⟩
    · cases hz
  · cases hz
theorem inK_ok {x y : V} {d e z : D} (hr : Rel K mg α F H S) (hx : DV K mg F α x d) (hy : DV K mg F α y e) (h : gInK S d e = some z) : ∃ l o, y = .ref l ∧ DGet H l x o ∧ z = .bl o.isSome := by
  unfold gInK at h
  split at h
  · rename_i hk
    obtain ⟨k, rfl⟩ := isKey_kD hk
    split at h
    · rename_i kvs e1
      cases h
      obtain ⟨l, ws, rfl, a1, a2⟩ := hr.viewD hy e1
      have := kD_DV hx
      subst this
      exact ⟨l, valV ws k, rfl, .inl ⟨ws, k, a1, rfl, rfl⟩, by rw [a2.isSome]⟩
    · cases h
  · cases h
theorem pd_inK (hu : X.A.units + 1 < cLine) (ha : PD X W a ra) (hb : PD X W b rb) (hm : behindInMarks .In b = false := by rfl) : PD X W (.Compare a [.In] [b] pos) (rBin gInK ra rb) ∧ PB X W (.Compare a [.In] [b] pos) (bVal (rBin gInK ra rb)) := by
  obtain ⟨ta, pa, sa⟩ := ha.ex
  obtain ⟨tb, pb, sb⟩ := hb.ex
  have s : SndE X.K X.mg W (tDIn ta tb) (rBin gInK ra rb) := sa.bin sb fun α F H S x y d e z Q hr hx hy hz q => by
    obtain ⟨l, o, rfl, h1, rfl⟩ := inK_ok hr hx hy hz
    exact ⟨l, o, rfl, h1, fin_now hr (.bl _) q⟩
  exact ⟨⟨_, pe_cmp (pc_din hu pa pb) hm, s⟩, ⟨_, pt_cmp (pc_din hu pa pb) hm, s.val⟩⟩
theorem pd_notInK (hu : X.A.units + 1 < cLine) (ha : PD X W a ra) (hb : PD X W b rb) (hm : behindInMarks .NotIn b = false := by rfl) : PD X W (.Compare a [.NotIn] [b] pos) (rBin gNotInK ra rb) ∧ PB X W (.Compare a [.NotIn] [b] pos) (bVal (rBin gNotInK ra rb)) := by
  obtain ⟨ta, pa, sa⟩ := ha.ex
  obtain ⟨tb, pb, sb⟩ := hb.ex
  have s : SndE X.K X.mg W (tDNotIn ta tb) (rBin gNotInK ra rb) := sa.bin sb fun α F H S x y d e z Q hr hx hy hz q => by
    have h1 : ∃ w, gInK S d e = some w ∧ ∀ k, w = .bl k → z = .bl (!k) := by
      unfold gNotInK at hz
      unfold gInK
      split at hz
      · rename_i hk
        rw [if_pos hk]
        split at hz
        · rename_i kvs e1
          cases hz
          exact ⟨_, rfl, fun k ek => by cases ek; rfl⟩
        · cases hz
      · cases hz
    obtain ⟨w, h2, h3⟩ := h1
    obtain ⟨l, o, rfl, h4, rfl⟩ := inK_ok hr hx hy h2
    rw [h3 _ rfl] at q
    exact ⟨l, o, rfl, h4, fin_now hr (.bl _) q⟩
  exact ⟨⟨_, pe_cmp (pc_dnotin hu pa pb) hm, s⟩, ⟨_, pt_cmp (pc_dnotin hu pa pb) hm, s.val⟩⟩
theorem psd_put {o i value : Expr} {pos' : Pos} {ro ri rv : RE} (hu : X.A.units + 1 < cLine) (ho : PD X W o ro) (hi : PD X W i ri) (hv : PD X W value rv) (hs : swapsWith value (some (.Subscript o i pos')) pos.line X.env = pure false := by rfl) : PSd X W (.Assign [.Subscript o i pos'] value pos) (sPut ro ri rv) := by
  obtain ⟨to, po, so⟩ := ho.ex
  obtain ⟨ti, pi, si⟩ := hi.ex
  obtain ⟨tv, pv', sv⟩ := hv.ex
  refine ⟨_, ps_dput hu po pi pv' hs, fun α F σ H δ S E hr hs h => ?_⟩
  refine sv α F σ H δ S _ hr hs (wpS.out h hs fun z S1 _ v H1 β F1 r1 q1 v1 h1 => ?_)
  have hs1 := hs.mono (β := β) q1.sub
  refine so (α ++ β) F1 σ H1 δ S1 _ r1 hs1 (wpS.out h1 hs1 fun x S2 _ xv H2 γ F2 r2 q2 v2 h2 => ?_)
  have hs2 := hs1.mono (β := γ) q2.sub
  refine si (α ++ β ++ γ) F2 σ H2 δ S2 _ r2 hs2 (wpS.out h2 hs2 fun y S3 _ yv H3 ε F3 r3 q3 v3 h3 => ?_)
  have hs3 := hs2.mono (β := ε) q3.sub
  split at h3
  · rename_i n
    split at h3
    · rename_i kvs e1
      split at h3
      · rename_i hc
        rw [Bool.and_eq_true] at hc
        obtain ⟨k, rfl⟩ := isKey_kD hc.1
        have v2' := v2.mono (β := ε) q3.sub
        cases v2' with
        | ptr ea =>
          obtain ⟨o1, _⟩ := r3.own _ _ _ ea e1
          obtain ⟨ws, o2, o3⟩ := Own.dctK.mp o1
          have := kD_DV v3
          subst this
          have vz := (v1.mono (β := γ) q2.sub).mono (β := ε) q3.sub
          obtain ⟨a1, a2⟩ := r3.setO (o := .dK (putK ws k v)) (d := .dct (putD kvs (kD k) z)) ea e1 (by intro z; cases z) (Own.dctK.mpr ⟨_, upd_same, o3.put k vz⟩)
          refine ⟨_, _, rfl, .inl ⟨ws, k, o2, rfl, by rw [o3.length]; exact of_decide_eq_true hc.2, rfl⟩, ?_⟩
          exact h3 _ _ _ _ a1 a2 (hs3.mono a2.sub)
      · exact h3.elim
    · exact h3.elim
  · exact h3.elim
theorem psd_setL {o i value : Expr} {pos' : Pos} {ro ri rv : RE} (ho : PD X W o ro) (hi : PD X W i ri) (hv : PD X W value rv) (ha : ∀ v, assign (.Subscript o i pos') X.env v = (do let ov ← holding [v] (eval o X.env); let iv ← holding [v, ov] (eval i X.env); standAt pos'; holding [v, ov, iv] (setItem ov iv v); release [v, ov, iv] []) := by intro _; rfl)
    (hsw : swapsWithSole [.Subscript o i pos'] value pos.line X.env = pure false := by rfl) (hw : swappedStores [.Subscript o i pos'] value X.env = pure none := by rfl) (h1 : (assignEach [.Subscript o i pos'] X.env).map (·.2) = [assign (.Subscript o i pos') X.env] := by rfl) : PSd X W (.Assign [.Subscript o i pos'] value pos) (sSetL ro ri rv) := by
  obtain ⟨to, po, so⟩ := ho.ex
  obtain ⟨ti, pi, si⟩ := hi.ex
  obtain ⟨tv, pv', sv⟩ := hv.ex
  refine ⟨_, ps_asg pv' (pg_sub po pi set_list ha) hsw hw h1, fun α F σ H δ S E hr hs h => ?_⟩
  refine sv α F σ H δ S _ hr hs (wpS.out h hs fun z S1 _ v H1 β F1 r1 q1 v1 h1 => ?_)
  have hs1 := hs.mono (β := β) q1.sub
  refine so (α ++ β) F1 σ H1 δ S1 _ r1 hs1 (wpS.out h1 hs1 fun x S2 _ xv H2 γ F2 r2 q2 v2 h2 => ?_)
  have hs2 := hs1.mono (β := γ) q2.sub
  refine si (α ++ β ++ γ) F2 σ H2 δ S2 _ r2 hs2 (wpS.out h2 hs2 fun y S3 _ yv H3 ε F3 r3 q3 v3 h3 => ?_)
  have hs3 := hs2.mono (β := ε) q3.sub
  cases x with
  | ptr n =>
    cases y with
    | int i =>
      dsimp only at h3
      split at h3
      · rename_i xs e1
        split at h3
        · rename_i j e2
          have v2' := v2.mono (β := ε) q3.sub
          cases v2' with
          | ptr ea =>
            obtain ⟨o1, _⟩ := r3.own _ _ _ ea e1
            obtain ⟨us, o2, o3⟩ := o1
            cases v3
            have vz := (v1.mono (β := γ) q2.sub).mono (β := ε) q3.sub
            obtain ⟨a1, a2⟩ := r3.setO (o := .lst (us.set j v)) (d := .lst (xs.set j z)) ea e1 (by intro z; cases z) ⟨_, upd_same, o3.set vz j⟩
            refine ⟨_, us, i, j, rfl, rfl, o2, by rw [o3.length]; exact e2, ?_⟩
            exact h3 _ _ _ _ a1 a2 (hs3.mono a2.sub)
        · exact h3.elim
      · exact h3.elim
    | _ => exact h3.elim
  | _ => exact h3.elim

/-! ### displays -/
structure PPd (X : Cx) (W : WX) (pos : Pos) (ks : List (Option Expr)) (vs : List Expr) (ps : List (RE × RE)) : Prop where
  ex : ∃ trs, PPs X pos ks vs trs ∧ ∀ α F σ H δ S (Q : List (V × V) → Hp → Prop), Rel X.K X.mg α F H S → Slots X.K X.mg F α σ δ →
    wp X.K X.mg α F H (fun F α (b : List (V × V)) (a : List (D × D)) => DVs X.K X.mg F α (b.map (·.1)) (a.map (·.1)) ∧ DVs X.K X.mg F α (b.map (·.2)) (a.map (·.2))) (rPairs ps δ S) Q (fun c d H' => W c d σ H') → tPairs trs σ H Q
theorem ppd_nil : PPd X W pos [] [] [] := ⟨[], pps_nil, fun α F σ H δ S Q hr hs h => h.now hr ⟨.nil, .nil⟩⟩
theorem ppd_cons {k v : Expr} {ks : List (Option Expr)} {vs : List Expr} {rk rv : RE} {ps : List (RE × RE)} (hk : PD X W k rk) (hv : PD X W v rv) (h : PPd X W pos ks vs ps) : PPd X W pos (some k :: ks) (v :: vs) ((rk, rv) :: ps) := by
  obtain ⟨tk, p1, s1⟩ := hk.ex
  obtain ⟨tv, p2, s2⟩ := hv.ex
  obtain ⟨trs, p3, s3⟩ := h.ex
  refine ⟨(tk, tv) :: trs, pps_cons p1 p2 p3, fun α F σ H δ S Q hr hs h => ?_⟩
  refine s1 α F σ H δ S _ hr hs (wp.bind h fun x S1 _ xv H1 β F1 r1 q1 v1 h1 => ?_)
  refine s2 (α ++ β) F1 σ H1 δ S1 _ r1 (hs.mono q1.sub) (wp.bind h1 fun y S2 _ yv H2 γ F2 r2 q2 v2 h2 => ?_)
  refine s3 (α ++ β ++ γ) F2 σ H2 δ S2 _ r2 ((hs.mono q1.sub).mono q2.sub) (wp.bind h2 fun zs S3 _ zv H3 ε F3 r3 q3 v3 h3 => ?_)
  exact h3.now r3 ⟨.cons ((v1.mono q2.sub).mono q3.sub) v3.1, .cons (v2.mono q3.sub) v3.2⟩
theorem keysOf : ∀ {kvs : List (D × D)} {ps : List (V × V)}, kvs.all (fun p => isKey p.1) = true → DVs K mg F α (ps.map (·.1)) (kvs.map (·.1)) → DVs K mg F α (ps.map (·.2)) (kvs.map (·.2)) → ∃ ws : List (Key × V), ps = ws.map (fun kv => (kV kv.1, kv.2)) ∧ KVs K mg F α ws kvs
  | [], [], _, _, _ => ⟨[], rfl, .nil⟩
  | [], _ :: _, _, h, _ => by have := h.length; simp at this
  | _ :: _, [], _, h, _ => by have := h.length; simp at this
  | (q, d) :: kvs, (x, y) :: ps, hk, h, g => by
    rw [List.all_cons, Bool.and_eq_true] at hk
    have h' : DVs K mg F α (x :: ps.map (·.1)) (q :: kvs.map (·.1)) := h
    have g' : DVs K mg F α (y :: ps.map (·.2)) (d :: kvs.map (·.2)) := g
    cases h' with
    | cons h1 h2 =>
      cases g' with
      | cons g1 g2 =>
        obtain ⟨ws, e1, e2⟩ := keysOf hk.2 h2 g2
        obtain ⟨k, ek⟩ := isKey_kD hk.1
        have ek : q = kD k := ek
        subst ek
        have := kD_DV h1
        subst this
        exact ⟨(k, y) :: ws, by rw [e1]; rfl, .cons g1 e2⟩
theorem pf_disp {ks : List (Option Expr)} {vs : List Expr} {ps : List (RE × RE)} (h : PPd X W pos ks vs ps) (hall : ks.all (·.isSome) = true := by rfl) (hl : ks.length = vs.length := by rfl) (h0 : ks ≠ [] := by intro z; cases z) (h15 : ks.length ≤ 15 := by decide) : PF X W (.Dict ks vs pos) (rDisp ps) := by
  obtain ⟨trs, p1, s1⟩ := h.ex
  refine ⟨_, pe_disp p1 hall hl h0 h15, fun α F σ H δ S Q hr hs h => fun ad had => ?_⟩
  have n := hr.notin had
  have f := hr.notF had
  unfold rDisp at h
  have hr' := hr.other (o := .dK []) n f
  refine s1 α F σ (upd H ad (.dK [])) δ S _ hr' hs ?_
  have stt : Stp α F H [] F (upd H ad (.dK [])) := Stp.refl.other had
  cases q : rPairs ps δ S with
  | err c fs S1 =>
    rw [q] at h
    intro cls dd H' β F' r1 st er
    have := stt.trans (β := []) (γ := β) (by rw [List.append_nil]; exact st)
    exact h cls dd H' β F' r1 this er
  | stuck => rw [q] at h; exact h.elim
  | ok kvs S1 =>
    rw [q] at h
    have h1 : wpF X.K X.mg α F H (if kvs.all (fun p => isKey p.1) && decide (kvs.length ≤ 15) then .ok (.dct (mergeD [] kvs)) S1 else .stuck) Q _ := h
    split at h1
    · rename_i hc
      rw [Bool.and_eq_true] at hc
      intro pv H' β F' r1 st ⟨g1, g2⟩
      obtain ⟨ws, e1, e2⟩ := keysOf hc.1 g1 g2
      have st' := stt.trans (β := []) (γ := β) (by rw [List.append_nil]; exact st)
      rw [List.nil_append] at st'
      have hD : H' ad = some (.dK []) := st.frame ad _ n upd_same
      have fD : F' ad = none := st.fnew ad n f (by rw [upd_same]; exact fun z => nomatch z)
      have nD : ad ∉ α ++ β := by
        intro z
        rcases List.mem_append.mp z with z | z
        · exact n z
        · have := st.new ad z
          rw [upd_same] at this; cases this
      refine ⟨hD, ws, e1, by rw [e2.length]; exact of_decide_eq_true hc.2, ?_⟩
      exact h1 ad _ β F' (r1.other nD fD) (st'.other had) had nD fD (Own.dctK.mpr ⟨_, upd_same, KVs.merge e2 .nil⟩) (by intro z; cases z)
    · exact h1.elim
theorem pf_dnew : PF X W (.Dict [] [] pos) (rC (.dct [])) := ⟨_, pe_dnewK, fun α F σ H δ S Q hr hs h => fun ad had => wpF.lay h hr had (Own.dctK.mpr ⟨[], upd_same, .nil⟩) (by intro z; cases z)⟩
end
end DL

set_option Elab.async false
set_option linter.all false
set_option maxRecDepth 100000
set_option maxHeartbeats 4000000
set_option autoImplicit false
/-! Data layer, last part: defs by their names, the law's end. -/
namespace DL
open PySem PySem.Spec PyProof.Rows L2

/-- the text of a def stands under its name -/
structure Fd (K : Fg) (mg : Str → Option Value) (x : Str) (st : Stmt) (ps : List Str) : Prop where
  ex : ∃ (f : Addr) (fd : FuncData), Fun K x x st f fd ∧ mg x = some (.ref f) ∧ Binds K fd ps []
/-- a def keeps to its mirror -/
structure Fn (P : Program) (w : World) (K : Fg) (mg : Str → Option Value) (base : Heap) (x : Str) (n k : Nat) (m : Mir) : Prop where
  ex : ∃ (f : Addr) (fd : FuncData) (ps : List Str), mg x = some (.ref f) ∧ PySem.W.keepIn K (.ref f) = true ∧ Binds K fd ps [] ∧ FnG P w K mg base k f fd ps (spD K mg n m)
section
variable {X : Cx} {W : WX} {a b c e tg : Expr} {es rest : List Expr} {ra rb rc : RE} {ba bb : RB} {rs : RA} {pos p : Pos} {K : Fg} {mg : Str → Option Value} {α β : List Addr} {F F1 H H1 : Hp} {S : Sto}
theorem pd_fn {x : Str} {m : Mir} {n k : Nat} (F : Fn X.prog X.w X.K X.mg X.base x n k m) (hr : Room k X.A) (hG : X.A.guards = some []) (tk : Takes X W) (ha : PDs X W (e :: es) rs) (hl : (e :: es).length = n := by rfl) (hg : Gl X x := by rfl) (hdb : (x == ("__debug__" : Str)) = false := by decide)
    (he : starEach (e :: es) X.env = (false, eval e X.env) :: starEach es X.env := by rfl) (hpl : (backTo pos (starEach es X.env)).any (·.1) = false := by rfl) : PD X W (.Call (.Name x p) (e :: es) [] pos) (rCall m rs) := by
  obtain ⟨f, fd, ps, h1, h2, h3, h4⟩ := F.ex
  exact pd_call h4 hr hG h1 h2 h3 tk ha hl hg hdb he hpl
theorem pd_gsE {x y : Str} (hm : ∃ t, X.mg x = some (.str y t)) (hg : Gl X x := by rfl) (hd : (x == ("__debug__" : Str)) = false := by decide) : PD X W (.Name x pos) (rC (.str y)) := let ⟨_, h⟩ := hm; pd_gs h hg hd
theorem pd_giE {x : Str} {i : Int} (hm : ∃ t, X.mg x = some (.int i t)) (hg : Gl X x := by rfl) (hd : (x == ("__debug__" : Str)) = false := by decide) : PD X W (.Name x pos) (rC (.int i)) := let ⟨_, h⟩ := hm; pd_gi h hg hd
theorem fun_of {x qual : Str} {st : Stmt} {f : Addr} {fd : FuncData} (F : FunD K x qual (defArgs st) (defBody st) (defScope st) [] [] f fd) : Fun K x qual st f fd := by
  obtain ⟨oc, od, dV, kV, doc, pm, an, cdv, ct, osl, e, lk, hcd, hD, _⟩ := F.ex
  rcases hD with ⟨_, rfl⟩ | ⟨z, _⟩
  · exact ⟨⟨oc, od, kV, doc, pm, an, cdv, ct, osl, e, lk, hcd⟩, F.kp⟩
  · exact absurd rfl z
/-- what a body's derivation is given -/
structure Env1 (X : Cx) (k : Nat) : Prop where
  room : Room k X.A
  gu : X.A.guards = some []
  hp : PassesOwn (model X.prog X.w) X.A X.env X.xe
theorem Env1.u1 {k : Nat} (h : Env1 X k) : X.A.units + 1 < cLine := by have := h.room.un; omega
theorem Env1.u64 {k : Nat} (h : Env1 X k) : X.A.units + 64 < cLine := by have := h.room.un; omega
theorem Env1.u80 {k : Nat} (h : Env1 X k) : X.A.units + 80 < cLine := by have := h.room.un; omega
theorem fn_mk {P : Program} {w : World} {base : Heap} {x : Str} {st : Stmt} {N ps : List Str} {k : Nat} {r : RS} (Fu : Fd K mg x st ps) (Sc : FnScope N ps (defScope st))
    (hbody : ∀ (f : Addr) (cdv : Value) (A : Around) (outer : List Env) (s : Shared) (H : Hp) (E : XK), Env1 (cxOf (L2.CX P w) P w K mg base N x (defScope st) f cdv A outer s H E) k → Takes (cxOf (L2.CX P w) P w K mg base N x (defScope st) f cdv A outer s H E) (fun cls d _ H => E cls d H) →
      PSds (cxOf (L2.CX P w) P w K mg base N x (defScope st) f cdv A outer s H E) (fun cls d _ H => E cls d H) (defBody st) r) : Fn P w K mg base x ps.length (k + 1) (mDef N.length r) := by
  obtain ⟨f, fd, h1, h2, h3⟩ := Fu.ex
  exact ⟨f, fd, ps, h2, h1.kp, h3, fn_okD h1 Sc fun cdv A outer s H E hr hG => hbody f cdv A outer s H E ⟨hr, hG, passes_of rfl⟩ (takes_of rfl rfl rfl rfl)⟩
end
end DL

set_option Elab.async false
set_option linter.all false
set_option maxRecDepth 100000
set_option maxHeartbeats 4000000
set_option autoImplicit false
/-! Data layer: the law's call. -/
namespace DL
open PySem PySem.Spec PyProof.Rows L2
section
variable {P : Program} {w : World} {K : Fg} {mg mb : Str → Option Value} {k : Nat} {fa a : Addr} {fd : FuncData} {x : Str} {m : Mir} {S1 : Shared} {us : List Value} {ns : List Int} {H : Hp}
theorem bv_len : bootBuiltins "len" = some (.builtin "len") := by decide +kernel
theorem bv_abs : bootBuiltins "abs" = some (.builtin "abs") := by decide +kernel
theorem bv_repr : bootBuiltins "repr" = some (.builtin "repr") := by decide +kernel
theorem bv_isinstance : bootBuiltins "isinstance" = some (.builtin "isinstance") := by decide +kernel
theorem bv_all : bootBuiltins "all" = some (.builtin "all") := by decide +kernel
theorem bv_any : bootBuiltins "any" = some (.builtin "any") := by decide +kernel
theorem bv_sum : bootBuiltins "sum" = some (.builtin "sum") := by decide +kernel
theorem bv_sorted : bootBuiltins "sorted" = some (.builtin "sorted") := by decide +kernel
theorem bv_min : bootBuiltins "min" = some (.builtin "min") := by decide +kernel
theorem bv_max : bootBuiltins "max" = some (.builtin "max") := by decide +kernel
theorem bv_int : bootBuiltins "int" = some (.type "int") := by decide +kernel
theorem bv_str : bootBuiltins "str" = some (.type "str") := by decide +kernel
theorem bv_bool : bootBuiltins "bool" = some (.type "bool") := by decide +kernel
theorem bv_tuple : bootBuiltins "tuple" = some (.type "tuple") := by decide +kernel
theorem bv_list : bootBuiltins "list" = some (.type "list") := by decide +kernel
theorem bv_dict : bootBuiltins "dict" = some (.type "dict") := by decide +kernel
theorem bv_set : bootBuiltins "set" = some (.type "set") := by decide +kernel
theorem bv_float : bootBuiltins "float" = some (.type "float") := by decide +kernel
def natAt (δ : Sl) (i : Nat) : Nat := match δ[i]? with
  | some (some (D.int j)) => j.natAbs
  | _ => 0
/-- what the tracked heap of a law's beginning may hold: the script alone, known to its object -/
structure Lone (K : Fg) (H : Hp) (a : Addr) : Prop where
  at_ : ∀ b, H b ≠ none → b = a
  notK : H a ≠ none → K.lookup a = none
  frz : ∀ b u, H b = some u → ∃ o xs, u = .frz o (.lst xs)
theorem Lone.off (L : Lone K H a) {b : Addr} (h : b ≠ a) : H b = none := by
  cases q : H b with
  | none => rfl
  | some u => exact absurd (L.at_ b (by rw [q]; simp)) h
abbrev lsObj (us : List Value) : Obj := { cls := .type "list", data := .seq us.toArray }
theorem Lone.space (L : Lone K H a) (ha : S1.heap.get? a = some (lsObj us)) {b : Addr} {f : Str → Option Value} (h : S1.heap.Ns b f) : (hidT S1.heap H).Ns b f := by
  obtain ⟨o, es, ep, g, d, r⟩ := h
  have hb : b ≠ a := fun z => by
    subst z
    have e : lsObj us = o := Option.some.inj (ha.symm.trans g)
    subst e
    exact nomatch d
  exact ⟨o, es, ep, hidT_get g (L.off hb), d, r⟩
theorem Lone.frag (L : Lone K H a) (KX : K.In S1.heap) : K.In (hidT S1.heap H) := fun b o e => hidT_get (KX b o e) (by
  by_cases z : b = a
  · subst z
    cases q : H b with
    | none => rfl
    | some u => exact absurd ((L.notK (by rw [q]; simp)).symm.trans e) (by simp)
  · exact L.off z)
abbrev Ended (h : Heap) (os : OsState) : Result → Shared → Prop := fun r z => r = .ok (.ret (.bool true)) ∧ OldK h z.heap ∧ z.os = os ∧ AllBare z.gens
theorem law_lone (L : Lone K H a) (KX : K.In S1.heap) (n1 : S1.heap.Ns mainGlobals mg) (n2 : S1.heap.Ns builtinsNs mb) (nb : ∀ y : Str, y ≠ "__name__" → mb y = bootBuiltins y) (n3 : S1.heap.NoLimit)
    (g0 : S1.gens = #[]) (ha : S1.heap.get? a = some (lsObj us)) (hok : HOk P w H S1.heap) (hS : SqL K H a (ns.map V.int)) (room : Room k callerA)
    (F : ∀ base : Heap, K.In base → base.Ns mainGlobals mg → Fn P w K mg base x 1 k m) (bd : mg x = some (.ref fa))
    (hm : ∃ S, m [.lst (ns.map .int)] [] = .ok (.bl true) S) : codeAny (model P w) callerA (.call (.ref fa) ⟨[.ref a], []⟩) (Ended S1.heap S1.os) S1 := by
  obtain ⟨c, i1, i2⟩ := n3
  have M : Mod K mg (hidT S1.heap H) := ⟨L.frag KX, L.space ha n1, ⟨mb, L.space ha n2, nb⟩, ⟨c, L.space ha i1, i2⟩⟩
  have e0 : Env0 P w K mg (hidT S1.heap H) callerA [] S1 H := ⟨rfl, M, fun _ _ e => of_hidT e, Nat.le_of_eq (hidT_size _ _), trivial, fun _ q => (nomatch q), hok, .of_eq g0⟩
  have sp : spD K mg 1 m [V.ref a] H (fun v _ => v = .bl true) (fun _ _ _ => False) := by
    refine ⟨rfl, [], H, [], [.lst (ns.map .int)], ⟨Sub.refl _, rfl, List.nodup_nil, fun _ q => (nomatch q), fun j b d q => (by simp at q)⟩, .cons (.lst hS (DVs.of_ints ns)) .nil, ?_⟩
    obtain ⟨S, e⟩ := hm
    rw [e]
    intro b H' β F' _ _ hv
    cases hv
    rfl
  obtain ⟨f', fd, ps, q1, _, q2, q3⟩ := (F _ M.kin (L.space ha n1)).ex
  obtain rfl : f' = fa := by rw [q1] at bd; cases bd; rfl
  have bt : BindsTo S1 fd ⟨[.ref a], []⟩ (ps.zip [.ref a]) := q2 S1 [.ref a] KX (q3.len _ _ _ _ sp)
  refine codeAny_mono (q3.run callerA [] S1 H ⟨[.ref a], []⟩ [.ref a] [V.ref a] (fun v _ => v = .bl true) _ room rfl e0 bt (.cons rfl .nil) sp) fun r z q => ?_
  match r, q with
  | .error _, ⟨_, _, _, _, _, _, _, _, _, _, _, q⟩ => exact q.2.elim
  | .ok (.ret u), ⟨v, H', os, bare, un, hok', r', q⟩ =>
    have q : v = .bl true := q
    subst q
    have r' : u = Value.bool true := r'
    subst r'
    refine ⟨rfl, OldK.of_keep fun b o e => ?_, os, bare⟩
    by_cases z : H b = none
    · exact un.keep b o e z (fun y => nomatch y) (fun y => nomatch y)
    · obtain ⟨y, hy⟩ : ∃ y, H b = some y := by
        cases q : H b with
        | none => exact absurd q z
        | some y => exact ⟨y, rfl⟩
      obtain ⟨ob, xs, rfl⟩ := L.frz b y hy
      have o1 := (hok b _ hy).1
      have o2 := (hok' b _ (un.frzs b ob _ hy)).1
      rw [e] at o1
      exact o2.trans o1.symm
  | .ok .next, q => exact q.elim
  | .ok .brk, q => exact q.elim
  | .ok .cont, q => exact q.elim
theorem law_mir (KX : K.In S1.heap) (n1 : S1.heap.Ns mainGlobals mg) (n2 : S1.heap.Ns builtinsNs mb) (nb : ∀ y : Str, y ≠ "__name__" → mb y = bootBuiltins y) (n3 : S1.heap.NoLimit) (g0 : S1.gens = #[]) (ha : S1.heap.get? a = some (lsObj us))
    (hi : IntsAre us ns) (hl : ns.length ≤ sizeLine) (room : Room k callerA) (F : ∀ base : Heap, K.In base → base.Ns mainGlobals mg → Fn P w K mg base x 1 k m) (bd : mg x = some (.ref fa))
    (hm : ∃ S, m [.lst (ns.map .int)] [] = .ok (.bl true) S) : codeAny (model P w) callerA (.call (.ref fa) ⟨[.ref a], []⟩) (Ended S1.heap S1.os) S1 := by
  have rv := vals_ints hi
  cases hk : K.lookup a with
  | some o =>
    have e := (KX a o hk).symm.trans ha
    cases e
    exact law_lone (H := fun _ => none) ⟨fun _ q => absurd rfl q, fun q => absurd rfl q, fun _ _ q => nomatch q⟩ KX n1 n2 nb n3 g0 ha (fun _ _ q => nomatch q)
      (.inr ⟨_, us.toArray, _, hk, rfl, rfl, rfl, by rw [List.size_toArray, hi.length]; exact hl, by simpa using rv⟩) room F bd hm
  | none =>
    refine law_lone (H := upd (fun _ => none) a (.frz (lsObj us) (.lst (ns.map V.int)))) ⟨fun b q => ?_, fun _ => hk, fun b u q => ?_⟩ KX n1 n2 nb n3 g0 ha (fun b u q => ?_) (.inl (.inr ⟨_, upd_same⟩)) room F bd hm
    · by_cases z : b = a
      · exact z
      · rw [upd_ne z] at q; exact absurd rfl q
    · by_cases z : b = a
      · subst z; rw [upd_same] at q; cases q; exact ⟨_, _, rfl⟩
      · rw [upd_ne z] at q; cases q
    · by_cases z : b = a
      · subst z; rw [upd_same] at q; cases q
        exact ⟨ha, by rw [List.length_map]; exact hl, us, _, rv, ha⟩
      · rw [upd_ne z] at q; cases q
end
/-- a law's end: what is given by the head, the mirror's answer -/
theorem walkG {l : PySem.W.OpenLaw} {n k : Nat} {q : Program} {loose : List Str} {XP : (Str → Option Value) → Heap → Prop} {YP : World → Heap → Prop} {d : DefRec} {m : Mir} (hn : l.most = some n) (hs : n ≤ sizeLine) (hd : d.params.defaults = []) (hr : Room k callerA)
    (F : ∀ (w : World) (mg : Str → Option Value) (h : Heap), YP w h → h.Ns mainGlobals mg → ∃ K : Fg, K.In h ∧ ∀ base : Heap, K.In base → base.Ns mainGlobals mg → Fn l.prog w K mg base d.name 1 k m)
    (hm : ∀ ns : List Int, ns.length ≤ n → ∃ S, m [.lst (ns.map .int)] [] = .ok (.bl true) S) : PySem.W.WalkO q loose XP YP l.row.toRowW d [] (fun f vs => PySem.call f vs) :=
  Att.attach_call hn hd fun w _ z mg mb fa _ _ _ _ a us ns G Y _ _ _ hmg ha hi hl hg => by
    obtain ⟨K, KX, hF⟩ := F w mg _ Y G.T.g
    exact law_mir KX G.T.g G.T.b G.T.builtins G.T.nolimit hg ha hi (Nat.le_trans hl hs) hr hF hmg (hm ns hl)
end DL

set_option Elab.async false
set_option linter.all false
set_option maxRecDepth 100000
set_option maxHeartbeats 4000000
set_option autoImplicit false
/-! Plain part: what a mirror answers, told by what must hold of its answer. -/
namespace DL
open PySem L2
def Res.post {A : Type} (r : Res A) (Q : A → Sto → Prop) : Prop := match r with
  | .ok a S => Q a S
  | _ => False
def Out.post (o : Out) (nx : Sl → Sto → Prop) (rt : D → Sto → Prop) (bk ct : Sl → Sto → Prop) : Prop := match o with
  | .nx δ S => nx δ S
  | .rt d S => rt d S
  | .bk δ S => bk δ S
  | .ct δ S => ct δ S
  | _ => False
abbrev NoS : Sl → Sto → Prop := fun _ _ => False
abbrev NoD : D → Sto → Prop := fun _ _ => False
section
variable {A A' : Type} {r : Res A} {f : A → Sto → Res A'} {Q : A → Sto → Prop} {Q' : A' → Sto → Prop} {δ : Sl} {S : Sto} {QD : D → Sto → Prop} {QL : List D → Sto → Prop} {QB : Bool → Sto → Prop} {QS : Sl → Sto → Prop} {N B C : Sl → Sto → Prop} {T : D → Sto → Prop}
theorem Res.post.ok {a : A} (h : Q a S) : (Res.ok a S).post Q := h
theorem Res.post.ex (h : r.post Q) : ∃ a S, r = .ok a S ∧ Q a S := by
  cases r with
  | ok a S => exact ⟨a, S, rfl, h⟩
  | err => exact h.elim
  | stuck => exact h.elim
theorem Res.post.mono {Q1 : A → Sto → Prop} (h : r.post Q1) (k : ∀ a S, Q1 a S → Q a S) : r.post Q := by
  cases r with
  | ok a S => exact k a S h
  | err => exact h.elim
  | stuck => exact h.elim
theorem Res.post.of_eq {a : A} (h : r = .ok a S) (q : Q a S) : r.post Q := by rw [h]; exact q
theorem Out.post.mono {o : Out} {N1 B1 C1 : Sl → Sto → Prop} {T1 : D → Sto → Prop} (h : o.post N1 T1 B1 C1) (k1 : ∀ δ S, N1 δ S → N δ S) (k2 : ∀ d S, T1 d S → T d S) (k3 : ∀ δ S, B1 δ S → B δ S) (k4 : ∀ δ S, C1 δ S → C δ S) : o.post N T B C := by
  cases o with
  | nx δ S => exact k1 _ _ h
  | rt δ S => exact k2 _ _ h
  | bk δ S => exact k3 _ _ h
  | ct δ S => exact k4 _ _ h
  | err => exact h.elim
  | stuck => exact h.elim
theorem p_bind (h : r.post fun a S1 => (f a S1).post Q') : (r.bind f).post Q' := by
  cases r with
  | ok a S => exact h
  | err => exact h.elim
  | stuck => exact h.elim
theorem p_lift {o : Option A} {a : A} (h : o = some a) (q : Q a S) : (Res.lift o S).post Q := by rw [h]; exact q
theorem p_out {g : A → Sto → Out} (h : r.post fun a S1 => (g a S1).post N T B C) : (r.out δ g).post N T B C := by
  cases r with
  | ok a S => exact h
  | err => exact h.elim
  | stuck => exact h.elim
/-! expressions -/
theorem p_var {i : Nat} {d : D} (e : δ[i]? = some (some d)) (h : QD d S) : (rVar i δ S).post QD := by unfold rVar; rw [e]; exact h
theorem p_c {d : D} (h : QD d S) : (rC d δ S).post QD := h
theorem p_un {g : Sto → D → Option D} {a : RE} (h : (a δ S).post fun x S1 => (Res.lift (g S1 x) S1).post QD) : (rUn g a δ S).post QD := p_bind h
theorem p_bin {g : Sto → D → D → Option D} {a b : RE} (h : (a δ S).post fun x S1 => (b δ S1).post fun y S2 => (Res.lift (g S2 x y) S2).post QD) : (rBin g a b δ S).post QD := p_bind (h.mono fun _ _ q => p_bind q)
theorem p_as {g : Sto → List D → Option D} {a : RA} (h : (a δ S).post fun x S1 => (Res.lift (g S1 x) S1).post QD) : (rAs g a δ S).post QD := p_bind h
theorem p_nil (h : QL [] S) : (rNil δ S).post QL := h
theorem p_cons {a : RE} {b : RA} (h : (a δ S).post fun x S1 => (b δ S1).post fun ys S2 => QL (x :: ys) S2) : (rCons a b δ S).post QL := p_bind (h.mono fun _ _ q => p_bind (q.mono fun _ _ q => q))
theorem p_call {m : Mir} {a : RA} (h : (a δ S).post fun xs S1 => (m xs S1).post QD) : (rCall m a δ S).post QD := p_bind h
theorem p_if {c : RB} {a b : RE} (h : (c δ S).post fun k S1 => (k = true → (a δ S1).post QD) ∧ (k = false → (b δ S1).post QD)) : (rIf c a b δ S).post QD := p_bind (h.mono fun k _ q => by
  cases k with
  | true => exact q.1 rfl
  | false => exact q.2 rfl)
theorem p_own {a : RE} (h : (a δ S).post fun d S1 => QD (.ptr S1.length) (S1 ++ [d])) : (rOwn a δ S).post QD := p_bind (h.mono fun _ _ q => q)
theorem p_tup {a : RA} (h : (a δ S).post fun xs S1 => xs.length ≤ sizeLine ∧ QD (.tup xs) S1) : (rTup a δ S).post QD := p_bind (h.mono fun _ _ q => by rw [if_pos q.1]; exact q.2)
theorem p_lst {a : RA} (h : (a δ S).post fun xs S1 => xs.length ≤ sizeLine ∧ QD (.lst xs) S1) : (rLst a δ S).post QD := p_bind (h.mono fun _ _ q => by rw [if_pos q.1]; exact q.2)
theorem p_keep {a : RE} (h : (a δ S).post fun d S1 => ∃ ds, d = .lst ds ∧ QD (.lst ds) S1) : (rKeep a δ S).post QD := p_bind (h.mono fun d _ ⟨ds, e, q⟩ => by subst e; exact q)
theorem p_tru {a : RE} (h : (a δ S).post fun d S1 => (Res.lift (truth S1 d) S1).post QB) : (bTru a δ S).post QB := p_bind h
theorem p_and {a b : RB} (h : (a δ S).post fun k S1 => (k = true → (b δ S1).post QB) ∧ (k = false → QB false S1)) : (bAnd a b δ S).post QB := p_bind (h.mono fun k _ q => by
  cases k with
  | true => exact q.1 rfl
  | false => exact q.2 rfl)
theorem p_or {a b : RB} (h : (a δ S).post fun k S1 => (k = true → QB true S1) ∧ (k = false → (b δ S1).post QB)) : (bOr a b δ S).post QB := p_bind (h.mono fun k _ q => by
  cases k with
  | true => exact q.1 rfl
  | false => exact q.2 rfl)
theorem p_not {a : RB} (h : (a δ S).post fun k S1 => QB (!k) S1) : (bNot a δ S).post QB := p_bind (h.mono fun _ _ q => q)
theorem p_val {a : RE} (h : (a δ S).post fun d S1 => ∃ k, d = .bl k ∧ QB k S1) : (bVal a δ S).post QB := p_bind (h.mono fun _ _ ⟨k, e, q⟩ => by subst e; exact q)
theorem p_rand {a b : RE} (h : (a δ S).post fun x S1 => ∃ k, truth S1 x = some k ∧ (k = true → (b δ S1).post QD) ∧ (k = false → QD x S1)) : (rAnd a b δ S).post QD := p_bind (h.mono fun x S1 ⟨k, e, q⟩ => p_bind (p_lift e (by
  cases k with
  | true => exact q.1 rfl
  | false => exact q.2 rfl)))
theorem p_ror {a b : RE} (h : (a δ S).post fun x S1 => ∃ k, truth S1 x = some k ∧ (k = true → QD x S1) ∧ (k = false → (b δ S1).post QD)) : (rOr a b δ S).post QD := p_bind (h.mono fun x S1 ⟨k, e, q⟩ => p_bind (p_lift e (by
  cases k with
  | true => exact q.1 rfl
  | false => exact q.2 rfl)))
theorem p_rnot {a : RE} (h : (a δ S).post fun x S1 => ∃ k, truth S1 x = some k ∧ QD (.bl (!k)) S1) : (rNot a δ S).post QD := p_bind (h.mono fun x S1 ⟨k, e, q⟩ => p_bind (p_lift e q))
theorem p_chain {g g' : Sto → D → D → Option D} {a b c : RE} (h : (a δ S).post fun x S1 => (b δ S1).post fun y S2 => ∃ k, g S2 x y = some (.bl k) ∧ (k = true → (c δ S2).post fun u S4 => (Res.lift (g' S4 y u) S4).post QD) ∧ (k = false → QD (.bl false) S2)) : (rChain g g' a b c δ S).post QD :=
  p_bind (h.mono fun x S1 q => p_bind (q.mono fun y S2 ⟨k, e, q⟩ => p_bind (p_lift e (by
    cases k with
    | true => exact p_bind (q.1 rfl)
    | false => exact q.2 rfl))))
theorem p_meth {T : String} {g : Sto → D → List D → Option (D × Sto)} {a : RE} {as : RA} (h : (a δ S).post fun x S1 => isTy T S1 x = true ∧ (as δ S1).post fun ys S2 => ∃ z S3, g S2 x ys = some (z, S3) ∧ QD z S3) : (rMeth T g a as δ S).post QD :=
  p_bind (h.mono fun x S1 ⟨e, q⟩ => by rw [if_pos e]; exact p_bind (q.mono fun ys S2 ⟨z, S3, e, q⟩ => by rw [e]; exact q))
/-! statements -/
theorem s_next (h : N δ S) : (sNext δ S).post N T B C := h
theorem s_seq {a b : RS} (h : (a δ S).post (fun δ1 S1 => (b δ1 S1).post N T B C) T B C) : (sSeq a b δ S).post N T B C := by
  unfold sSeq
  cases q : a δ S with
  | nx δ1 S1 => rw [q] at h; exact h
  | _ => rw [q] at h; exact h
theorem s_asg {e : RE} {g : RG} (h : (e δ S).post fun d S1 => (g d δ S1).post fun δ1 S2 => N δ1 S2) : (sAsg e g δ S).post N T B C := p_out (h.mono fun _ _ q => p_out (q.mono fun _ _ q => q))
theorem s_name {i : Nat} {d : D} (hi : i < δ.length) (h : QS (δ.set i (some d)) S) : (gName i d δ S).post QS := by unfold gName; rw [if_pos hi]; exact h
theorem s_gtup {u : List D → Sl → Sto → Res Sl} {d : D} {ds : List D} (e : deref S d = .tup ds) (h : (u ds δ S).post QS) : (gTup u d δ S).post QS := by unfold gTup; rw [e]; exact h
theorem s_gunl {u : List D → Sl → Sto → Res Sl} {d : D} {ds : List D} (e : deref S d = .lst ds) (h : (u ds δ S).post QS) : (gUnl u d δ S).post QS := by unfold gUnl; rw [e]; exact h
theorem s_gnil (h : QS δ S) : (gNil [] δ S).post QS := h
theorem s_gcons {g : RG} {u : List D → Sl → Sto → Res Sl} {d : D} {r : List D} (h : (g d δ S).post fun δ1 S1 => (u r δ1 S1).post QS) : (gCons g u (d :: r) δ S).post QS := p_bind h
theorem s_expr {e : RE} (h : (e δ S).post fun _ S1 => N δ S1) : (sExpr e δ S).post N T B C := p_out (h.mono fun _ _ q => q)
theorem s_ret {e : RE} (h : (e δ S).post fun d S1 => T d S1) : (sRet e δ S).post N T B C := p_out (h.mono fun _ _ q => q)
theorem s_if {c : RB} {a b : RS} (h : (c δ S).post fun k S1 => (k = true → (a δ S1).post N T B C) ∧ (k = false → (b δ S1).post N T B C)) : (sIf c a b δ S).post N T B C := p_out (h.mono fun k _ q => by
  cases k with
  | true => exact q.1 rfl
  | false => exact q.2 rfl)
theorem s_brk (h : B δ S) : (sBreak δ S).post N T B C := h
theorem s_cont (h : C δ S) : (sCont δ S).post N T B C := h
theorem s_par {i j : Nat} {a : RA} (h : (a δ S).post fun xs S1 => ∃ x y, xs = [x, y] ∧ i < δ.length ∧ j < δ.length ∧ N ((δ.set i (some x)).set j (some y)) S1) : (sPar i j a δ S).post N T B C :=
  p_out (h.mono fun xs S1 ⟨x, y, e, h1, h2, q⟩ => by subst e; dsimp only; rw [if_pos ⟨h1, h2⟩]; exact q)
theorem s_for {it : RA} {g : RG} {b : RS} (h : (it δ S).post fun xs S1 => (forL g b xs δ S1).post N T B C) : (sFor it g b δ S).post N T B C := p_out h
/-- the loop's law: I holds ahead of each turn -/
theorem s_forL {g : RG} {b : RS} (I : List D → Sl → Sto → Prop) (step : ∀ x xs δ S, I (x :: xs) δ S → (g x δ S).post fun δ1 S1 => (b δ1 S1).post (fun δ2 S2 => I xs δ2 S2) T N fun δ2 S2 => I xs δ2 S2) (fin : ∀ δ S, I [] δ S → N δ S) :
    ∀ (xs : List D) (δ : Sl) (S : Sto), I xs δ S → (forL g b xs δ S).post N T B C
  | [], δ, S, h => fin δ S h
  | x :: xs, δ, S, h => by
    unfold forL
    refine p_out ((step x xs δ S h).mono fun δ1 S1 q => ?_)
    cases e : b δ1 S1 with
    | nx δ2 S2 => rw [e] at q; exact s_forL I step fin xs δ2 S2 q
    | ct δ2 S2 => rw [e] at q; exact s_forL I step fin xs δ2 S2 q
    | bk δ2 S2 => rw [e] at q; exact q
    | rt d S2 => rw [e] at q; exact q
    | err => rw [e] at q; exact q.elim
    | stuck => rw [e] at q; exact q.elim
theorem s_while {fuel : Sl → Sto → Nat} {c : RB} {b : RS} (h : (whileL c b (fuel δ S) δ S).post N T B C) : (sWhile fuel c b δ S).post N T B C := h
/-- I n: at most n turns are left -/
theorem s_whileL {c : RB} {b : RS} (I : Nat → Sl → Sto → Prop) (step : ∀ n δ S, I n δ S → (c δ S).post fun k S1 => (k = true → ∃ m, n = m + 1 ∧ (b δ S1).post (fun δ2 S2 => I m δ2 S2) T N fun δ2 S2 => I m δ2 S2) ∧ (k = false → N δ S1)) :
    ∀ (n m : Nat) (δ : Sl) (S : Sto), I n δ S → n < m → (whileL c b m δ S).post N T B C
  | _, 0, _, _, _, hm => absurd hm (Nat.not_lt_zero _)
  | n, m + 1, δ, S, h, hm => by
    unfold whileL
    refine p_out ((step n δ S h).mono fun k S1 q => ?_)
    cases k with
    | false => exact q.2 rfl
    | true =>
      obtain ⟨n', rfl, q'⟩ := q.1 rfl
      clear q
      rw [if_pos rfl]
      cases e : b δ S1 with
      | nx δ2 S2 => rw [e] at q'; exact s_whileL I step n' m δ2 S2 q' (by omega)
      | ct δ2 S2 => rw [e] at q'; exact s_whileL I step n' m δ2 S2 q' (by omega)
      | bk δ2 S2 => rw [e] at q'; exact q'
      | rt d S2 => rw [e] at q'; exact q'
      | err => rw [e] at q'; exact q'.elim
      | stuck => rw [e] at q'; exact q'.elim
/-! walks -/
theorem p_seq {a : RE} (h : (a δ S).post fun x S1 => (∃ ds, x = .lst ds ∧ QL ds S1) ∨ (∃ ds, x = .tup ds ∧ QL ds S1) ∨ ∃ z, x = .str z ∧ QL (z.cps.toList.map fun c => .str ⟨#[c]⟩) S1) : (rSeq a δ S).post QL :=
  p_bind (h.mono fun x S1 q => by rcases q with ⟨ds, e, q⟩ | ⟨ds, e, q⟩ | ⟨z, e, q⟩ <;> subst e <;> exact q)
theorem p_enum {a : RA} (h : (a δ S).post fun xs S1 => ∃ ds, xs = [.lst ds] ∧ QL (enumD 0 ds) S1) : (rEnum a δ S).post QL := p_bind (h.mono fun _ _ ⟨ds, e, q⟩ => by subst e; exact q)
theorem p_range1 {a : RA} (h : (a δ S).post fun xs S1 => ∃ j, xs = [.int j] ∧ -(2 ^ 62) ≤ j ∧ j < 2 ^ 62 ∧ QL (rangeD 0 j) S1) : (rRange a δ S).post QL := p_bind (h.mono fun _ _ ⟨j, e, h1, h2, q⟩ => by subst e; dsimp only; rw [if_pos ⟨h1, h2⟩]; exact q)
theorem p_range2 {a : RA} (h : (a δ S).post fun xs S1 => ∃ i j, xs = [.int i, .int j] ∧ -(2 ^ 62) ≤ i ∧ i < 2 ^ 62 ∧ -(2 ^ 62) ≤ j ∧ j < 2 ^ 62 ∧ QL (rangeD i j) S1) : (rRange a δ S).post QL :=
  p_bind (h.mono fun _ _ ⟨i, j, e, h1, h2, h3, h4, q⟩ => by subst e; dsimp only; rw [if_pos ⟨h1, h2, h3, h4⟩]; exact q)
/-- the loop's law of a comprehension: I left done -/
theorem p_lcL {g : RG} {t : RB} {e : RE} (I : List D → List D → Sto → Prop) (step : ∀ x xs acc S, I (x :: xs) acc S → (g x δ S).post fun δ1 S1 => (t δ1 S1).post fun k S2 => (k = true → (e δ1 S2).post fun y S3 => I xs (acc ++ [y]) S3) ∧ (k = false → I xs acc S2)) :
    ∀ (xs acc : List D) (S : Sto), I xs acc S → (lcL g t e xs δ S).post fun ys S' => I [] (acc ++ ys) S'
  | [], acc, S, h => by
    show I [] (acc ++ []) S
    rw [List.append_nil]; exact h
  | x :: xs, acc, S, h => by
    unfold lcL
    refine p_bind ((step x xs acc S h).mono fun δ1 S1 q => p_bind (q.mono fun k S2 q => ?_))
    cases k with
    | true =>
      rw [if_pos rfl]
      refine p_bind ((q.1 rfl).mono fun y S3 q => p_bind ((p_lcL I step xs (acc ++ [y]) S3 q).mono fun ys S4 q => ?_))
      show I [] (acc ++ y :: ys) S4
      rw [List.append_assoc] at q
      exact q
    | false => exact p_lcL I step xs acc S2 (q.2 rfl)
theorem p_lc {it : RA} {g : RG} {vs : List Nat} {t : RB} {e : RE} (h : (it δ S).post fun xs S1 => (lcL g t e xs (wipeD δ vs) S1).post fun ys S2 => ys.length ≤ sizeLine ∧ QD (.lst ys) S2) : (rLc it g vs t e δ S).post QD :=
  p_bind (h.mono fun xs S1 q => p_bind (by
    obtain ⟨ys, S2, e1, e2⟩ := q.ex
    rw [e1]
    show (if ys.length ≤ sizeLine then Res.ok (D.lst ys) S2 else .stuck).post QD
    rw [if_pos e2.1]; exact e2.2))
theorem p_yes (h : QB true S) : (bYes δ S).post QB := h
/-! a def -/
theorem m_def {n : Nat} {b : RS} {ds : List D} (h : (b (ds.map some ++ List.replicate (n - ds.length) none) S).post
    (fun _ S1 => closedL S.length (S1.take S.length) = true ∧ QD .non (S1.take S.length)) (fun d S1 => (D.closed S.length d && closedL S.length (S1.take S.length)) = true ∧ QD d (S1.take S.length)) NoS NoS) : (mDef n b ds S).post QD := by
  unfold mDef
  cases q : b (ds.map some ++ List.replicate (n - ds.length) none) S with
  | nx δ S1 => rw [q] at h; dsimp only; rw [if_pos h.1]; exact h.2
  | rt d S1 => rw [q] at h; dsimp only; rw [if_pos h.1]; exact h.2
  | _ => rw [q] at h; exact h.elim
end
end DL

set_option Elab.async false
set_option linter.all false
set_option maxRecDepth 100000
set_option maxHeartbeats 4000000
set_option autoImplicit false
/-! Plain part: operations on what is known. -/
namespace DL
open PySem L2
section
variable {S : Sto} {i j : Int} {x y : Str} {b c : Bool} {Q : D → Sto → Prop} {QB : Bool → Sto → Prop}
theorem o_add (h : Q (.int (i + j)) S) : (Res.lift (gAdd S (.int i) (.int j)) S).post Q := h
theorem o_sub (h : Q (.int (i - j)) S) : (Res.lift (gSub S (.int i) (.int j)) S).post Q := h
theorem o_mul (f : mulFits i j = true) (h : Q (.int (i * j)) S) : (Res.lift (gMul S (.int i) (.int j)) S).post Q := p_lift (by unfold gMul; dsimp only; rw [if_pos f]) h
theorem o_mod (f : j ≠ 0) (h : Q (.int (i.fmod j)) S) : (Res.lift (gMod S (.int i) (.int j)) S).post Q := p_lift (by unfold gMod; dsimp only; rw [if_pos f]) h
theorem o_div (f : j ≠ 0 ∧ j.natAbs.log2 < 9000) (h : Q (.int (i.fdiv j)) S) : (Res.lift (gDiv S (.int i) (.int j)) S).post Q := p_lift (by unfold gDiv; dsimp only; rw [if_pos f]) h
theorem o_pow (f : 0 ≤ j ∧ j ≤ 1000000 ∧ i.natAbs < 2 ^ 64) (h : Q (.int (i ^ j.toNat)) S) : (Res.lift (gPow S (.int i) (.int j)) S).post Q := p_lift (by unfold gPow; dsimp only; rw [if_pos f]) h
theorem o_neg (h : Q (.int (-i)) S) : (Res.lift (gNeg S (.int i)) S).post Q := h
theorem o_lt (h : Q (.bl (decide (i < j))) S) : (Res.lift (gLt S (.int i) (.int j)) S).post Q := h
theorem o_le (h : Q (.bl (decide (i ≤ j))) S) : (Res.lift (gLe S (.int i) (.int j)) S).post Q := h
theorem o_gt (h : Q (.bl (decide (j < i))) S) : (Res.lift (gGt S (.int i) (.int j)) S).post Q := h
theorem o_ge (h : Q (.bl (decide (j ≤ i))) S) : (Res.lift (gGe S (.int i) (.int j)) S).post Q := h
theorem o_eqg {d e : D} {u v : PyData} (h1 : toPy S (deref S d) = some u) (h2 : toPy S (deref S e) = some v) (h3 : SeqAt.shaped u = true) (h4 : SeqAt.shaped v = true) (h : Q (.bl (PyData.eqv u v)) S) : (Res.lift (gEq S d e) S).post Q :=
  p_lift (by unfold gEq eqD; rw [h1, h2]; dsimp only; rw [h3, h4]; rfl) h
theorem o_neg_ {d e : D} {u v : PyData} (h1 : toPy S (deref S d) = some u) (h2 : toPy S (deref S e) = some v) (h3 : SeqAt.shaped u = true) (h4 : SeqAt.shaped v = true) (h : Q (.bl (!PyData.eqv u v)) S) : (Res.lift (gNe S d e) S).post Q :=
  p_lift (by unfold gNe eqD; rw [h1, h2]; dsimp only; rw [h3, h4]; rfl) h
theorem shaped_int : SeqAt.shaped (.int i) = true := by unfold SeqAt.shaped; simp [PyData.canLay0, PyData.depth]
theorem shaped_bl : SeqAt.shaped (.bool b) = true := by unfold SeqAt.shaped; simp [PyData.canLay0, PyData.depth]
theorem shaped_non : SeqAt.shaped .none = true := by unfold SeqAt.shaped; simp [PyData.canLay0, PyData.depth]
theorem shaped_str (h : PyData.strOk x = true) : SeqAt.shaped (.str x) = true := by unfold SeqAt.shaped; simp [PyData.canLay0, PyData.depth, h]
theorem o_eqI (h : Q (.bl (i == j)) S) : (Res.lift (gEq S (.int i) (.int j)) S).post Q := o_eqg rfl rfl shaped_int shaped_int (by simpa [PyData.eqv] using h)
theorem o_neI (h : Q (.bl (!(i == j))) S) : (Res.lift (gNe S (.int i) (.int j)) S).post Q := o_neg_ rfl rfl shaped_int shaped_int (by simpa [PyData.eqv] using h)
theorem o_eqS (h1 : PyData.strOk x = true) (h2 : PyData.strOk y = true) (h : Q (.bl (x == y)) S) : (Res.lift (gEq S (.str x) (.str y)) S).post Q := o_eqg rfl rfl (shaped_str h1) (shaped_str h2) (by simpa [PyData.eqv] using h)
theorem o_neS (h1 : PyData.strOk x = true) (h2 : PyData.strOk y = true) (h : Q (.bl (!(x == y))) S) : (Res.lift (gNe S (.str x) (.str y)) S).post Q := o_neg_ rfl rfl (shaped_str h1) (shaped_str h2) (by simpa [PyData.eqv] using h)
theorem o_abs (h : Q (.int i.natAbs) S) : (Res.lift (gAbs S [.int i]) S).post Q := p_lift (a := .int i.natAbs) (by unfold gAbs; dsimp only; congr 2; omega) h
theorem o_tru (h : QB b S) : (Res.lift (truth S (.bl b)) S).post QB := h
theorem o_ixT {xs : List D} {d : D} (e : atI xs i = some d) (h : Q d S) : (Res.lift (gIx S (.tup xs) (.int i)) S).post Q := p_lift e h
theorem o_ixL {xs : List D} {d : D} (e : atI xs i = some d) (h : Q d S) : (Res.lift (gIx S (.lst xs) (.int i)) S).post Q := p_lift e h
theorem p_true {A B : Prop} (h : A) : (true = true → A) ∧ (true = false → B) := ⟨fun _ => h, fun z => nomatch z⟩
theorem p_false {A B : Prop} (h : B) : (false = true → A) ∧ (false = false → B) := ⟨fun z => (nomatch z), fun _ => h⟩
theorem p_ex {A : Type} {x : A} {R T : A → Prop} (e : R x) (h : T x) : ∃ x, R x ∧ T x := ⟨x, e, h⟩
theorem p_ex2 {A B : Type} {x : A} {y : B} {R T : A → B → Prop} (e : R x y) (h : T x y) : ∃ x y, R x y ∧ T x y := ⟨x, y, e, h⟩
theorem p_var2 {i : Nat} {δ : Sl} (h : ∃ d, δ[i]? = some (some d) ∧ Q d S) : (rVar i δ S).post Q := let ⟨_, e, q⟩ := h; p_var e q
theorem p_isT {k : Bool} {A B : Prop} (e : k = true) (h : A) : (k = true → A) ∧ (k = false → B) := by subst e; exact p_true h
theorem p_isF {k : Bool} {A B : Prop} (e : k = false) (h : B) : (k = true → A) ∧ (k = false → B) := by subst e; exact p_false h
end
local macro_rules | `(tactic| walk_at "1") => `(tactic| with_reducible first
  | refine s_seq ?_ | refine s_asg ?_ | refine s_ret ?_ | refine s_if ?_ | refine s_expr ?_ | refine s_next ?_ | refine s_brk ?_ | refine s_cont ?_ | refine s_for ?_ | refine s_while ?_
  | refine p_c ?_ | refine p_bin ?_ | refine p_as ?_ | refine p_cons ?_ | refine p_nil ?_ | refine p_un ?_ | refine p_call ?_ | refine p_if ?_ | refine p_own ?_
  | refine p_keep ?_ | refine p_tru ?_ | refine p_and ?_ | refine p_or ?_ | refine p_not ?_ | refine p_val ?_ | refine p_rand ?_ | refine p_ror ?_ | refine p_rnot ?_ | refine p_chain ?_
  | refine o_add ?_ | refine o_sub ?_ | refine o_lt ?_ | refine o_le ?_ | refine o_gt ?_ | refine o_ge ?_ | refine o_neg ?_ | refine o_eqI ?_ | refine o_neI ?_ | refine o_abs ?_ | refine o_tru ?_ | refine p_true ?_ | refine p_false ?_
  | refine s_par ?_ | refine p_yes ?_ | refine p_lc ?_ | refine p_seq ?_ | refine s_gnil ?_ | refine s_gcons ?_)
local macro_rules | `(tactic| walk_at "2") => `(tactic| first
  | walk_at "1"
  | (with_reducible refine p_var2 ?_)
  | ((with_reducible refine s_name ?_ ?_); (· exact Nat.le_of_ble_eq_true rfl); dsimp only [List.set_cons_zero, List.set_cons_succ])
  | (with_reducible refine p_tup ?_) | ((with_reducible refine ⟨?_, ?_⟩); (· exact Nat.le_of_ble_eq_true rfl))
  | ((with_reducible refine p_ex2 (x := ?_) (y := ?_) ?_ ?_); rotate_left; rotate_left; (· rfl); refine ⟨?_, ?_, ?_⟩; (· exact Nat.le_of_ble_eq_true rfl); (· exact Nat.le_of_ble_eq_true rfl); dsimp only [List.set_cons_zero, List.set_cons_succ])
  | ((with_reducible refine p_isT ?_ ?_); (· rfl)) | ((with_reducible refine p_isF ?_ ?_); (· rfl))
  | ((with_reducible refine p_ex (x := ?_) ?_ ?_); rotate_left; (· rfl)))
/-! a trial: the greatest common divisor -/
example (a b : Int) (S : Sto) : ((rBin gAdd (rVar 0) (rC (.int 3))) [some (.int a), some (.int b)] S).post fun d S' => d = .int (a + 3) ∧ S' = S := by
  repeat walk_at "2"
  exact ⟨rfl, rfl⟩
end DL

set_option Elab.async false
set_option linter.all false
set_option maxRecDepth 100000
set_option maxHeartbeats 4000000
set_option autoImplicit false
/-! Plain part: comprehensions that leave the store, answers that leave it. -/
namespace DL
open PySem L2
theorem lcL_map {i : Nat} {e : RE} {f : D → D} {δ : Sl} {S : Sto} (hi : i < δ.length) : ∀ {xs : List D}, (∀ x ∈ xs, e (δ.set i (some x)) S = .ok (f x) S) → lcL (gName i) bYes e xs δ S = .ok (xs.map f) S
  | [], _ => rfl
  | x :: xs, h => by
    unfold lcL gName
    rw [if_pos hi]
    show (e (δ.set i (some x)) S).bind _ = _
    rw [h x List.mem_cons_self]
    show (lcL (gName i) bYes e xs δ S).bind _ = _
    rw [lcL_map hi fun y hy => h y (List.mem_cons_of_mem _ hy)]
    rfl
theorem lcL_filter {i : Nat} {t : RB} {e : RE} {p : D → Bool} {δ : Sl} {S : Sto} (hi : i < δ.length) : ∀ {xs : List D}, (∀ x ∈ xs, t (δ.set i (some x)) S = .ok (p x) S) → (∀ x ∈ xs, e (δ.set i (some x)) S = .ok x S) → lcL (gName i) t e xs δ S = .ok (xs.filter p) S
  | [], _, _ => rfl
  | x :: xs, h, he => by
    unfold lcL gName
    rw [if_pos hi]
    show (t (δ.set i (some x)) S).bind _ = _
    rw [h x List.mem_cons_self]
    have ih := lcL_filter hi (fun y hy => h y (List.mem_cons_of_mem _ hy)) (fun y hy => he y (List.mem_cons_of_mem _ hy))
    rw [List.filter_cons]
    cases q : p x with
    | true =>
      show (e (δ.set i (some x)) S).bind _ = _
      rw [he x List.mem_cons_self]
      show (lcL (gName i) t e xs δ S).bind _ = _
      rw [ih]
      rfl
    | false =>
      show lcL (gName i) t e xs δ S = _
      rw [ih]
      rfl
/-- an answer that leaves the store as it is -/
theorem same_of {m : Mir} {ds : List D} {d : D} {S : Sto} (h : (m ds S).post fun z S' => z = d ∧ S' = S) : m ds S = .ok d S := by
  obtain ⟨a, S1, e, rfl, rfl⟩ := h.ex
  exact e
theorem exact_of {A : Type} {r : Res A} {a : A} {S : Sto} (h : r.post fun z S' => z = a ∧ S' = S) : r = .ok a S := by
  obtain ⟨a, S1, e, rfl, rfl⟩ := h.ex
  exact e
/-- a store in which nothing that is made now is told -/
def Sane (S : Sto) : Prop := closedL S.length S = true
theorem m_defS {n : Nat} {b : RS} {ds : List D} {S : Sto} {d : D} (hS : Sane S) (hd : D.closed S.length d = true) (h : (b (ds.map some ++ List.replicate (n - ds.length) none) S).post NoS (fun z S1 => z = d ∧ S1 = S) NoS NoS) : mDef n b ds S = .ok d S :=
  same_of (m_def (h.mono (fun _ _ z => z.elim) (fun z S1 ⟨e1, e2⟩ => by
    subst e1 e2
    rw [List.take_length, hd, show closedL S1.length S1 = true from hS]
    exact ⟨rfl, rfl, rfl⟩) (fun _ _ z => z) (fun _ _ z => z)))
theorem m_defQ {n : Nat} {b : RS} {ds : List D} {S : Sto} {Q : D → Prop} (hS : Sane S) (hd : ∀ d, Q d → D.closed S.length d = true) (h : (b (ds.map some ++ List.replicate (n - ds.length) none) S).post NoS (fun z S1 => Q z ∧ S1 = S) NoS NoS) : (mDef n b ds S).post fun d S' => Q d ∧ S' = S :=
  m_def (h.mono (fun _ _ z => z.elim) (fun z S1 ⟨e1, e2⟩ => by
    subst e2
    rw [List.take_length, hd z e1, show closedL S1.length S1 = true from hS]
    exact ⟨rfl, e1, rfl⟩) (fun _ _ z => z) (fun _ _ z => z))
theorem fits_of {i j : Int} {a b : Nat} (h1 : i.natAbs < 2 ^ a) (h2 : j.natAbs < 2 ^ b) (h : a + b ≤ 1000000) : mulFits i j = true := by
  have lg : ∀ {n k : Nat}, n < 2 ^ k → n.log2 ≤ k := fun {n k} hn => by
    by_cases z : n = 0
    · subst z; simp
    · exact Nat.le_of_lt ((Nat.log2_lt z).mpr hn)
  have l1 := lg h1
  have l2 := lg h2
  unfold mulFits
  by_cases e : a + b < 1000000
  · exact decide_eq_true (by omega)
  · refine decide_eq_true ?_
    by_cases z : i.natAbs = 0
    · rw [z]
      by_cases y : b = 0
      · subst y
        have : j.natAbs.log2 = 0 := by omega
        simp [this]
      · by_cases w : j.natAbs = 0
        · rw [w]; decide
        · have := (Nat.log2_lt w).mpr h2
          simp only [Nat.log2_zero]; omega
    · have := (Nat.log2_lt z).mpr h1
      omega
theorem log_of {j : Int} {b : Nat} (h : j.natAbs < 2 ^ b) (hb : b < 9000) : j.natAbs.log2 < 9000 := by
  by_cases z : j.natAbs = 0
  · rw [z]; decide
  · have := (Nat.log2_lt z).mpr h
    omega
theorem closed_ints : ∀ {n : Nat} {ns : List Int}, closedL n (ns.map .int) = true
  | _, [] => rfl
  | n, i :: r => by unfold List.map closedL; rw [closed_ints]; rfl
theorem toPys_ints {S : Sto} : ∀ ns : List Int, toPys S (ns.map .int) = some (ns.map .int)
  | [] => rfl
  | i :: r => by unfold List.map toPys toPy; rw [toPys_ints r]
theorem eqvAll_ints : ∀ ns ms : List Int, PyData.eqvAll (ns.map .int) (ms.map .int) = decide (ns = ms)
  | [], [] => by simp [PyData.eqvAll]
  | [], _ :: _ => by simp [PyData.eqvAll]
  | _ :: _, [] => by simp [PyData.eqvAll]
  | a :: r, b :: q => by simp [PyData.eqvAll, PyData.eqv, eqvAll_ints r q, Bool.beq_eq_decide_eq]
theorem lay_ints : ∀ ns : List Int, PyData.canLayAll0 (ns.map .int) = true ∧ PyData.depthAll (ns.map .int) = 0
  | [] => ⟨by simp [PyData.canLayAll0], by simp [PyData.depthAll]⟩
  | a :: r => by
    obtain ⟨h1, h2⟩ := lay_ints r
    exact ⟨by simp [PyData.canLayAll0, PyData.canLay0, h1], by simp [PyData.depthAll, PyData.depth, h2]⟩
theorem shaped_ints (ns : List Int) : SeqAt.shaped (.list (ns.map .int)) = true ∧ SeqAt.shaped (.tuple (ns.map .int)) = true := by
  obtain ⟨h1, h2⟩ := lay_ints ns
  constructor <;> · unfold SeqAt.shaped; simp [PyData.canLay0, PyData.depth, h1, h2]
theorem o_eqIs {S : Sto} {ns ms : List Int} {Q : D → Sto → Prop} (h : Q (.bl (decide (ns = ms))) S) : (Res.lift (gEq S (.lst (ns.map .int)) (.lst (ms.map .int))) S).post Q :=
  o_eqg (u := .list (ns.map .int)) (v := .list (ms.map .int)) (by show (toPys S (ns.map .int)).map PyData.list = _; rw [toPys_ints]; rfl) (by show (toPys S (ms.map .int)).map PyData.list = _; rw [toPys_ints]; rfl) (shaped_ints ns).1 (shaped_ints ms).1 (by simpa [PyData.eqv, eqvAll_ints] using h)
theorem o_neIs {S : Sto} {ns ms : List Int} {Q : D → Sto → Prop} (h : Q (.bl (!decide (ns = ms))) S) : (Res.lift (gNe S (.lst (ns.map .int)) (.lst (ms.map .int))) S).post Q :=
  o_neg_ (u := .list (ns.map .int)) (v := .list (ms.map .int)) (by show (toPys S (ns.map .int)).map PyData.list = _; rw [toPys_ints]; rfl) (by show (toPys S (ms.map .int)).map PyData.list = _; rw [toPys_ints]; rfl) (shaped_ints ns).1 (shaped_ints ms).1 (by simpa [PyData.eqv, eqvAll_ints] using h)
theorem o_eqTs {S : Sto} {ns ms : List Int} {Q : D → Sto → Prop} (h : Q (.bl (decide (ns = ms))) S) : (Res.lift (gEq S (.tup (ns.map .int)) (.tup (ms.map .int))) S).post Q :=
  o_eqg (u := .tuple (ns.map .int)) (v := .tuple (ms.map .int)) (by show (toPys S (ns.map .int)).map PyData.tuple = _; rw [toPys_ints]; rfl) (by show (toPys S (ms.map .int)).map PyData.tuple = _; rw [toPys_ints]; rfl) (shaped_ints ns).2 (shaped_ints ms).2 (by simpa [PyData.eqv, eqvAll_ints] using h)
theorem rangeD_nat (j : Nat) : rangeD 0 j = (List.range j).map fun (i : Nat) => D.int i := by
  unfold rangeD
  rw [show ((j : Int) - 0).toNat = j by omega]
  refine List.map_congr_left fun i _ => ?_
  rw [Int.zero_add]
theorem rangeD_len (j : Nat) : (rangeD 0 j).length = j := by rw [rangeD_nat, List.length_map, List.length_range]
theorem range_cons {j i : Nat} {x : D} {xs : List D} (e : x :: xs = (rangeD 0 j).drop i) : x = .int i ∧ i < j ∧ xs = (rangeD 0 j).drop (i + 1) := by
  have hlt : i < (rangeD 0 j).length := by
    rcases Nat.lt_or_ge i (rangeD 0 j).length with q | q
    · exact q
    · rw [List.drop_eq_nil_of_le q] at e; cases e
  rw [List.drop_eq_getElem_cons hlt] at e
  rw [rangeD_len] at hlt
  refine ⟨?_, hlt, (List.cons.inj e).2⟩
  have h := (List.cons.inj e).1
  rw [h]
  have : (rangeD 0 j)[i]? = some (.int i) := by rw [rangeD_nat, List.getElem?_map, List.getElem?_range hlt]; rfl
  rw [List.getElem?_eq_getElem (by rw [rangeD_len]; exact hlt)] at this
  exact Option.some.inj this
theorem range_nil {j i : Nat} (e : [] = (rangeD 0 j).drop i) : j ≤ i := by
  have := congrArg List.length e
  rw [List.length_drop, rangeD_len] at this
  have h0 : ([] : List D).length = 0 := rfl
  omega
end DL

set_option Elab.async false
set_option linter.all false
set_option maxRecDepth 100000
set_option maxHeartbeats 4000000
set_option autoImplicit false
/-! Plain part: dicts in the store, what a def gives away. -/
namespace DL
open PySem L2
theorem closedL_set {n : Nat} : ∀ {S : Sto} {k : Nat} {d : D}, closedL n S = true → D.closed n d = true → closedL n (S.set k d) = true
  | [], _, _, h, _ => h
  | a :: r, 0, d, h, hd => by
    unfold closedL at h
    rw [Bool.and_eq_true] at h
    show closedL n (d :: r) = true
    unfold closedL
    rw [hd, h.2]; rfl
  | a :: r, k + 1, d, h, hd => by
    unfold closedL at h
    rw [Bool.and_eq_true] at h
    show closedL n (a :: r.set k d) = true
    unfold closedL
    rw [h.1, closedL_set h.2 hd]; rfl
theorem sane_set {S : Sto} {k : Nat} {d : D} (h : Sane S) (hd : D.closed S.length d = true) : Sane (S.set k d) := by
  unfold Sane
  rw [List.length_set]
  exact closedL_set h hd
mutual
theorem closed_mono {n m : Nat} (h : n ≤ m) : ∀ {d : D}, D.closed n d = true → D.closed m d = true
  | .ptr k, e => by
    unfold D.closed at e ⊢
    exact decide_eq_true (Nat.lt_of_lt_of_le (of_decide_eq_true e) h)
  | .tup xs, e => by unfold D.closed at e ⊢; exact closedL_mono h e
  | .lst xs, e => by unfold D.closed at e ⊢; exact closedL_mono h e
  | .dct xs, e => by unfold D.closed at e ⊢; exact closedK_mono h e
  | .dcn xs, e => by unfold D.closed at e ⊢; exact closedK_mono h e
  | .non, _ => rfl
  | .bl _, _ => rfl
  | .int _, _ => rfl
  | .str _, _ => rfl
  | .fn _, _ => rfl
  | .ty _, _ => rfl
theorem closedL_mono {n m : Nat} (h : n ≤ m) : ∀ {d : List D}, closedL n d = true → closedL m d = true
  | [], _ => rfl
  | a :: r, e => by
    unfold closedL at e ⊢
    rw [Bool.and_eq_true] at e ⊢
    exact ⟨closed_mono h e.1, closedL_mono h e.2⟩
theorem closedK_mono {n m : Nat} (h : n ≤ m) : ∀ {d : List (D × D)}, closedK n d = true → closedK m d = true
  | [], _ => rfl
  | (a, b) :: r, e => by
    unfold closedK at e ⊢
    rw [Bool.and_eq_true, Bool.and_eq_true] at e ⊢
    exact ⟨⟨closed_mono h e.1.1, closed_mono h e.1.2⟩, closedK_mono h e.2⟩
end
theorem closedL_app {n : Nat} : ∀ {a b : List D}, closedL n a = true → closedL n b = true → closedL n (a ++ b) = true
  | [], b, _, h => h
  | x :: a, b, e, h => by
    unfold closedL at e
    rw [Bool.and_eq_true] at e
    show closedL n (x :: (a ++ b)) = true
    unfold closedL
    rw [e.1, closedL_app e.2 h]; rfl
theorem sane_app {S : Sto} {d : D} (h : Sane S) (hd : D.closed (S.length + 1) d = true) : Sane (S ++ [d]) := by
  unfold Sane
  rw [List.length_append]
  refine closedL_app (closedL_mono (Nat.le_add_right _ _) h) ?_
  show closedL (S.length + 1) [d] = true
  unfold closedL closedL
  rw [hd]; rfl
section
variable {S : Sto} {δ : Sl} {QD : D → Sto → Prop} {N B C : Sl → Sto → Prop} {T : D → Sto → Prop}
theorem o_get {k : Nat} {q v : D} {kvs : List (D × D)} (h : S[k]? = some (.dct kvs)) (hq : isKey q = true) (e : lookD kvs q = some v) (f : QD v S) : (Res.lift (gGet S (.ptr k) q) S).post QD :=
  p_lift (by
    have hd : deref S (.ptr k) = .dct kvs := by
      unfold deref
      dsimp only
      rw [show S.getD k .non = .dct kvs by rw [List.getD_eq_getElem?_getD, h]; rfl]
    unfold gGet
    rw [if_pos hq, hd]
    exact e) f
theorem s_put {d k v : RE} (h : (v δ S).post fun z S1 => (d δ S1).post fun x S2 => (k δ S2).post fun y S3 => ∃ n kvs, x = .ptr n ∧ S3[n]? = some (.dct kvs) ∧ isKey y = true ∧ kvs.length < sizeLine ∧ N δ (S3.set n (.dct (putD kvs y z)))) : (sPut d k v δ S).post N T B C :=
  p_out (h.mono fun z S1 q => p_out (q.mono fun x S2 q => p_out (q.mono fun y S3 ⟨n, kvs, e1, e2, e3, e4, q'⟩ => by
    subst e1
    dsimp only
    rw [e2]
    dsimp only
    rw [if_pos (by rw [e3, decide_eq_true e4]; rfl)]
    exact q')))
theorem p_pairs_nil {Q : List (D × D) → Sto → Prop} (h : Q [] S) : (rPairs [] δ S).post Q := h
theorem p_pairs {k v : RE} {r : List (RE × RE)} {Q : List (D × D) → Sto → Prop} (h : (k δ S).post fun x S1 => (v δ S1).post fun y S2 => (rPairs r δ S2).post fun ps S3 => Q ((x, y) :: ps) S3) : (rPairs ((k, v) :: r) δ S).post Q := by
  unfold rPairs
  exact p_bind (h.mono fun x S1 q => p_bind (q.mono fun y S2 q => p_bind (q.mono fun ps S3 q => q)))
theorem p_disp {ps : List (RE × RE)} (h : (rPairs ps δ S).post fun kvs S1 => (kvs.all (fun p => isKey p.1) && decide (kvs.length ≤ 15)) = true ∧ QD (.dct (mergeD [] kvs)) S1) : (rDisp ps δ S).post QD := p_bind (h.mono fun kvs S1 q => by rw [if_pos q.1]; exact q.2)
end
/-- a def gives away what it made last -/
theorem m_give {n : Nat} {b : RS} {ds : List D} {S : Sto} {u : D} (hS : Sane S) (ho : u.owned = true) (hc : D.closed S.length u = true)
    (h : (b (ds.map some ++ List.replicate (n - ds.length) none) S).post NoS (fun z S1 => z = .ptr S.length ∧ S1 = S ++ [u]) NoS NoS) : mDef n b ds S = .ok (.ptr S.length) (S ++ [u]) := by
  unfold mDef
  cases q : b (ds.map some ++ List.replicate (n - ds.length) none) S with
  | rt d S1 =>
    rw [q] at h
    obtain ⟨rfl, rfl⟩ : d = .ptr S.length ∧ S1 = S ++ [u] := h
    dsimp only
    have e1 : D.closed S.length (.ptr S.length) = false := by unfold D.closed; exact decide_eq_false (Nat.lt_irrefl _)
    rw [e1]
    show giveD S.length (.ptr S.length) (S ++ [u]) = _
    unfold giveD
    dsimp only
    rw [show (S ++ [u])[S.length]? = some u by rw [List.getElem?_append_right (Nat.le_refl _), Nat.sub_self]; rfl]
    dsimp only
    rw [List.take_left', ho, hc, show closedL S.length S = true from hS, decide_eq_true (Nat.le_refl _)]
    · rfl
    · rfl
  | _ => rw [q] at h; exact h.elim
theorem m_defR {n : Nat} {b : RS} {ds : List D} {S : Sto} {Q : D → Sto → Prop} (h : (b (ds.map some ++ List.replicate (n - ds.length) none) S).post NoS (fun z S1 => S1.length = S.length ∧ Sane S1 ∧ D.closed S.length z = true ∧ Q z S1) NoS NoS) : (mDef n b ds S).post Q :=
  m_def (h.mono (fun _ _ z => z.elim) (fun z S1 ⟨e1, e2, e3, e4⟩ => by
    have e : S1.take S.length = S1 := by rw [← e1, List.take_length]
    rw [e, e3, ← e1, show closedL S1.length S1 = true from e2]
    exact ⟨rfl, e4⟩) (fun _ _ z => z) (fun _ _ z => z))
section
variable {δ : Sl} {S : Sto} {g : RG} {t : RB} {e : RE} {b : RS} {x : D} {xs : List D} {Q : List D → Sto → Prop} {N B C : Sl → Sto → Prop} {T : D → Sto → Prop}
theorem p_lc_nil (h : Q [] S) : (lcL g t e [] δ S).post Q := h
theorem p_lc_cons (h : (g x δ S).post fun δ1 S1 => (t δ1 S1).post fun k S2 => (k = true → (e δ1 S2).post fun y S3 => (lcL g t e xs δ S3).post fun ys S4 => Q (y :: ys) S4) ∧ (k = false → (lcL g t e xs δ S2).post Q)) : (lcL g t e (x :: xs) δ S).post Q := by
  unfold lcL
  refine p_bind (h.mono fun δ1 S1 q => p_bind (q.mono fun k S2 q => ?_))
  cases k with
  | true =>
    rw [if_pos rfl]
    exact p_bind ((q.1 rfl).mono fun y S3 q => p_bind (q.mono fun ys S4 q => q))
  | false => exact q.2 rfl
theorem s_for_nil (h : N δ S) : (forL g b [] δ S).post N T B C := h
end
/-- S' is S but at k -/
structure But (k : Nat) (S S' : Sto) : Prop where
  len : S'.length = S.length
  at_ : ∀ j, j ≠ k → S'[j]? = S[j]?
  sane : Sane S'
theorem But.trans {k : Nat} {S S1 S2 : Sto} (a : But k S S1) (b : But k S1 S2) : But k S S2 := ⟨b.len.trans a.len, fun j hj => (b.at_ j hj).trans (a.at_ j hj), b.sane⟩
end DL

set_option Elab.async false
set_option linter.all false
set_option maxRecDepth 100000
set_option maxHeartbeats 4000000
set_option autoImplicit false
/-! Plain part: texts by their signs. -/
namespace DL
open PySem L2
/-- the text of these signs -/
def mk (cs : List Nat) : Str := ⟨cs.toArray⟩
theorem mk_of (w : Str) : w = mk w.cps.toList := by unfold mk; simp
theorem mk_len (cs : List Nat) : (mk cs).length = cs.length := by show cs.toArray.size = _; simp
theorem mk_list (cs : List Nat) : (mk cs).cps.toList = cs := by unfold mk; simp
theorem mk_inj {a b : List Nat} (h : mk a = mk b) : a = b := by
  have := congrArg (fun z : Str => z.cps.toList) h
  rwa [mk_list, mk_list] at this
theorem mk_beq (a b : List Nat) : (mk a == mk b) = decide (a = b) := by
  by_cases h : a = b
  · subst h; rw [beq_self_eq_true, decide_eq_true rfl]
  · rw [decide_eq_false h]
    exact beq_eq_false_iff_ne.mpr fun z => h (mk_inj z)
theorem cut_tail (cs : List Nat) : cutS (mk cs) (some 1) none = mk (cs.drop 1) := by
  unfold cutS
  rw [mk_list, mk_len]
  have e : HT.sIx cs.length 0 (some 1) = min 1 cs.length := HT.sIx_nat _ _ 1
  rw [e]
  show mk _ = mk _
  congr 1
  rw [HT.sIx_none]
  rcases cs with _ | ⟨a, r⟩
  · rfl
  · simp
theorem cut_head (cs : List Nat) : cutS (mk cs) none (some 1) = mk (cs.take 1) := by
  unfold cutS
  rw [mk_list, mk_len]
  have e : HT.sIx cs.length cs.length (some 1) = min 1 cs.length := HT.sIx_nat _ _ 1
  rw [e]
  show mk _ = mk _
  congr 1
  rw [HT.sIx_none]
  rcases cs with _ | ⟨a, r⟩
  · rfl
  · simp
/-- signs that a text may have -/
def Fine (cs : List Nat) : Prop := ∀ c ∈ cs, c < 128
theorem Fine.ok {cs : List Nat} (h : Fine cs) : PyData.strOk (mk cs) = true := by
  unfold PyData.strOk mk
  rw [Array.all_eq_true']
  intro c hc
  have := h c (by simpa using hc)
  exact decide_eq_true (by omega)
theorem Fine.drop {cs : List Nat} (h : Fine cs) (n : Nat) : Fine (cs.drop n) := fun c hc => h c (List.mem_of_mem_drop hc)
theorem Fine.take {cs : List Nat} (h : Fine cs) (n : Nat) : Fine (cs.take n) := fun c hc => h c (List.mem_of_mem_take hc)
theorem starts_dash (cs : List Nat) : Txt.startswith (mk cs) "-" = (cs.head? == some 45) := by
  have e : ("-" : Str) = mk [45] := by kernel_rfl
  rw [e]
  unfold Txt.startswith Builtin.Str.subAt
  rw [mk_len, mk_len]
  rcases cs with _ | ⟨a, r⟩
  · rfl
  · have h1 : decide (0 + [45].length ≤ (a :: r).length) = true := decide_eq_true (by simp)
    rw [h1, Bool.true_and]
    have h2 : (mk (a :: r)).cps.extract 0 (0 + [45].length) = #[a] := by unfold mk; simp
    rw [h2]
    show (#[a] == #[45]) = (some a == some 45)
    by_cases z : a = 45
    · subst z; rfl
    · rw [beq_eq_false_iff_ne.mpr (fun y => z (by simpa using y)), beq_eq_false_iff_ne.mpr (fun y => z (by simpa using y))]
section
variable {δ : Sl} {S : Sto} {QD : D → Sto → Prop} {QO : Option Int → Sto → Prop} {a : RE} {l h : RO}
theorem p_onone (q : QO none S) : (oNone δ S).post QO := q
theorem p_osome (q : (a δ S).post fun x S1 => ∃ i, x = .int i ∧ QO (some i) S1) : (oSome a δ S).post QO := p_bind (q.mono fun x S1 ⟨i, e, q'⟩ => by subst e; exact q')
theorem p_cutS (q : (a δ S).post fun x S1 => (l δ S1).post fun i S2 => (h δ S2).post fun j S3 => ∃ z, x = .str z ∧ z.length ≤ sizeLine ∧ QD (.str (cutS z i j)) S3) : (rCut a l h δ S).post QD :=
  p_bind (q.mono fun x S1 q => p_bind (q.mono fun i S2 q => p_bind (q.mono fun j S3 ⟨z, e, e2, q'⟩ => by
    subst e
    show (if z.length ≤ sizeLine then Res.ok (D.str (cutS z i j)) S3 else .stuck).post QD
    rw [if_pos e2]; exact q')))
theorem p_cutL (q : (a δ S).post fun x S1 => (l δ S1).post fun i S2 => (h δ S2).post fun j S3 => ∃ z, x = .lst z ∧ QD (.lst (cutD z i j)) S3) : (rCut a l h δ S).post QD :=
  p_bind (q.mono fun x S1 q => p_bind (q.mono fun i S2 q => p_bind (q.mono fun j S3 ⟨z, e, q'⟩ => by
    subst e
    exact q')))
theorem o_len {z : Str} (e : z.length ≤ sizeLine) (q : QD (.int z.length) S) : (Res.lift (gLen S [.str z]) S).post QD := p_lift (by unfold gLen deref; dsimp only; rw [if_pos e]) q
theorem o_in1 {c : Nat} {z : Str} (q : QD (.bl (decide (c ∈ z.cps.toList))) S) : (Res.lift (gIn1 S (.str ⟨#[c]⟩) (.str z)) S).post QD := p_lift (by unfold gIn1 deref; rfl) q
theorem o_notIn1 {c : Nat} {z : Str} (q : QD (.bl (!decide (c ∈ z.cps.toList))) S) : (Res.lift (gNotIn1 S (.str ⟨#[c]⟩) (.str z)) S).post QD := p_lift (by unfold gNotIn1 gIn1 deref; rfl) q
theorem o_ixS {z : Str} {i : Int} {c : Nat} (e : z.length ≤ sizeLine) (e2 : atI z.cps.toList i = some c) (q : QD (.str ⟨#[c]⟩) S) : (Res.lift (gIx S (.str z) (.int i)) S).post QD := p_lift (by unfold gIx deref; dsimp only; rw [if_pos e, e2]; rfl) q
theorem o_addS {x y : Str} (e : x.length + y.length ≤ sizeLine) (q : QD (.str (x ++ y)) S) : (Res.lift (gAdd S (.str x) (.str y)) S).post QD := p_lift (by unfold gAdd deref; dsimp only; rw [if_pos e]) q
end
/-- the texts of single signs -/
def sgs (cs : List Nat) : List D := cs.map fun c => .str ⟨#[c]⟩
theorem walk_mk (cs : List Nat) : ((mk cs).cps.toList.map fun c => D.str ⟨#[c]⟩) = sgs cs := by rw [mk_list]; rfl
theorem figs : ("0123456789" : Str).cps.toList = [48, 49, 50, 51, 52, 53, 54, 55, 56, 57] := by kernel_rfl
theorem in_figs (c : Nat) : c ∈ ("0123456789" : Str).cps.toList ↔ 48 ≤ c ∧ c ≤ 57 := by
  rw [figs]
  simp only [List.mem_cons, List.not_mem_nil, or_false]
  omega
theorem toPys_strs {S : Sto} : ∀ xs : List Str, toPys S (xs.map .str) = some (xs.map .str)
  | [] => rfl
  | i :: r => by unfold List.map toPys toPy; rw [toPys_strs r]
theorem eqvAll_strs : ∀ xs ys : List Str, PyData.eqvAll (xs.map .str) (ys.map .str) = decide (xs = ys)
  | [], [] => by simp [PyData.eqvAll]
  | [], _ :: _ => by simp [PyData.eqvAll]
  | _ :: _, [] => by simp [PyData.eqvAll]
  | a :: r, b :: q => by simp [PyData.eqvAll, PyData.eqv, eqvAll_strs r q, Bool.beq_eq_decide_eq]
theorem lay_strs : ∀ xs : List Str, (∀ x ∈ xs, PyData.strOk x = true) → PyData.canLayAll0 (xs.map .str) = true ∧ PyData.depthAll (xs.map .str) = 0
  | [], _ => ⟨by simp [PyData.canLayAll0], by simp [PyData.depthAll]⟩
  | a :: r, h => by
    obtain ⟨h1, h2⟩ := lay_strs r fun x hx => h x (List.mem_cons_of_mem _ hx)
    exact ⟨by simp [PyData.canLayAll0, PyData.canLay0, h1, h a List.mem_cons_self], by simp [PyData.depthAll, PyData.depth, h2]⟩
theorem shaped_strs {xs : List Str} (h : ∀ x ∈ xs, PyData.strOk x = true) : SeqAt.shaped (.list (xs.map .str)) = true := by
  obtain ⟨h1, h2⟩ := lay_strs xs h
  unfold SeqAt.shaped; simp [PyData.canLay0, PyData.depth, h1, h2]
theorem o_eqStrs {S : Sto} {xs ys : List Str} {Q : D → Sto → Prop} (h1 : ∀ x ∈ xs, PyData.strOk x = true) (h2 : ∀ x ∈ ys, PyData.strOk x = true) (h : Q (.bl (decide (xs = ys))) S) : (Res.lift (gEq S (.lst (xs.map .str)) (.lst (ys.map .str))) S).post Q :=
  o_eqg (u := .list (xs.map .str)) (v := .list (ys.map .str)) (by show (toPys S (xs.map .str)).map PyData.list = _; rw [toPys_strs]; rfl) (by show (toPys S (ys.map .str)).map PyData.list = _; rw [toPys_strs]; rfl) (shaped_strs h1) (shaped_strs h2) (by simpa [PyData.eqv, eqvAll_strs] using h)
theorem o_neStrs {S : Sto} {xs ys : List Str} {Q : D → Sto → Prop} (h1 : ∀ x ∈ xs, PyData.strOk x = true) (h2 : ∀ x ∈ ys, PyData.strOk x = true) (h : Q (.bl (!decide (xs = ys))) S) : (Res.lift (gNe S (.lst (xs.map .str)) (.lst (ys.map .str))) S).post Q :=
  o_neg_ (u := .list (xs.map .str)) (v := .list (ys.map .str)) (by show (toPys S (xs.map .str)).map PyData.list = _; rw [toPys_strs]; rfl) (by show (toPys S (ys.map .str)).map PyData.list = _; rw [toPys_strs]; rfl) (shaped_strs h1) (shaped_strs h2) (by simpa [PyData.eqv, eqvAll_strs] using h)
def sg (c : Nat) : Str := ⟨#[c]⟩
theorem sgs_eq (cs : List Nat) : sgs cs = (cs.map sg).map D.str := by unfold sgs; rw [List.map_map]; rfl
theorem sg_inj {a b : Nat} (h : sg a = sg b) : a = b := by
  have := congrArg (fun z : Str => z.cps.toList) h
  simpa [sg] using this
theorem sg_ok {cs : List Nat} (h : Fine cs) : ∀ x ∈ cs.map sg, PyData.strOk x = true := by
  intro x hx
  obtain ⟨c, hc, rfl⟩ := List.mem_map.mp hx
  exact Fine.ok (cs := [c]) fun d hd => by rw [List.mem_singleton.mp hd]; exact h c hc
theorem sgs_mem {x : D} {cs : List Nat} (h : x ∈ sgs cs) : ∃ c ∈ cs, x = .str ⟨#[c]⟩ := by
  obtain ⟨c, h1, h2⟩ := List.mem_map.mp h
  exact ⟨c, h1, h2.symm⟩
theorem sgs_filter (p : Nat → Bool) (q : D → Bool) (h : ∀ c, q (.str ⟨#[c]⟩) = p c) : ∀ cs : List Nat, (sgs cs).filter q = sgs (cs.filter p)
  | [] => rfl
  | c :: r => by
    show List.filter q (.str ⟨#[c]⟩ :: sgs r) = _
    rw [List.filter_cons, h, List.filter_cons, sgs_filter p q h r]
    cases p c <;> rfl
theorem ix_figs {S : Sto} {c : Nat} (h : 48 ≤ c ∧ c ≤ 57) : gIndexS S (.str "0123456789") [.str ⟨#[c]⟩] = some (.int ((c - 48 : Nat) : Int)) := by
  rcases (by omega : c = 48 ∨ c = 49 ∨ c = 50 ∨ c = 51 ∨ c = 52 ∨ c = 53 ∨ c = 54 ∨ c = 55 ∨ c = 56 ∨ c = 57) with e | e | e | e | e | e | e | e | e | e <;> subst e <;> kernel_rfl
theorem asBls_map : ∀ bs : List Bool, asBls (bs.map .bl) = some bs
  | [] => rfl
  | b :: r => by unfold List.map asBls; rw [asBls_map r]; rfl
theorem o_all {S : Sto} {bs : List Bool} {Q : D → Sto → Prop} (h : Q (.bl (bs.all id)) S) : (Res.lift (gAll S [.lst (bs.map .bl)]) S).post Q := p_lift (by unfold gAll deref; dsimp only; rw [asBls_map]; rfl) h
theorem o_int {S : Sto} {x : Str} {n : Int} {Q : D → Sto → Prop} (e : intText? x = some n) (l : x.length ≤ 640) (h : Q (.int n) S) : (Res.lift (gInt S [.str x]) S).post Q := p_lift (by unfold gInt; dsimp only; rw [e]; dsimp only; rw [if_pos l]) h
end DL

set_option Elab.async false
set_option linter.all false
set_option maxRecDepth 100000
set_option maxHeartbeats 0
set_option autoImplicit false
namespace DL
open PySem L2
def b_is_whole : RS := (sRet (rAnd (rAs gIsi (rCons (rVar 0) (rCons (rC (.ty "int")) rNil))) (rNot (rAs gIsi (rCons (rVar 0) (rCons (rC (.ty "bool")) rNil))))))
def m_is_whole : Mir := mDef 1 b_is_whole
def b_is_among : RS := (sRet (rAnd (rCall m_is_whole (rCons (rVar 0) rNil)) (rChain gLe gLe (rVar 1) (rVar 0) (rVar 2))))
def m_is_among : Mir := mDef 3 b_is_among
def b_is_name : RS := (sSeq (sIf (bOr (bNot (bTru (rAs gIsi (rCons (rVar 0) (rCons (rC (.ty "str")) rNil))))) (bNot (bVal (rChain gLe gLe (rC (.int 1)) (rAs gLen (rCons (rVar 0) rNil)) (rC (.int 8)))))) (sRet (rC (.bl false))) sNext)
    (sRet (rAs gAll (rCons (rKeep (rLc (rSeq (rVar 0)) (gName 1) [1] bYes (rBin gIn1 (rVar 1) (rC (.str "abcdefghijklmnopqrstuvwxyz"))))) rNil))))
def m_is_name : Mir := mDef 2 b_is_name
def b_number_of : RS := (sSeq (sIf (bNot (bTru (rAs gIsi (rCons (rVar 0) (rCons (rC (.ty "str")) rNil))))) (sRet (rC .non)) sNext)
    (sSeq (sAsg (rIf (bTru (rMeth "str" (pureM gStarts) (rVar 0) (rCons (rC (.str "-")) rNil))) (rCut (rVar 0) (oSome (rC (.int 1))) oNone) (rVar 0)) (gName 1))
    (sSeq (sIf (bOr (bNot (bVal (rChain gLe gLe (rC (.int 1)) (rAs gLen (rCons (rVar 1) rNil)) (rC (.int 40))))) (bNot (bTru (rAs gAll (rCons (rKeep (rLc (rSeq (rVar 1)) (gName 2) [2] bYes (rBin gIn1 (rVar 2) (rC (.str "0123456789"))))) rNil))))) (sRet (rC .non)) sNext)
    (sSeq (sIf (bAnd (bVal (rBin gEq (rBin gIx (rVar 1) (rC (.int 0))) (rC (.str "0")))) (bVal (rBin gNe (rVar 0) (rC (.str "0"))))) (sRet (rC .non)) sNext)
    (sRet (rAs gInt (rCons (rVar 0) rNil)))))))
def m_number_of : Mir := mDef 3 b_number_of
def b_words_of : RS := (sSeq (sIf (bNot (bTru (rAs gIsi (rCons (rVar 0) (rCons (rC (.ty "str")) rNil))))) (sRet (rC .non)) sNext)
    (sSeq (sAsg (rKeep (rSplit (rVar 0) (rC (.str " ")))) (gName 1))
    (sSeq (sIf (bVal (rBin gInQ (rC (.str "")) (rVar 1))) (sRet (rC .non)) sNext)
    (sRet (rVar 1)))))
def m_words_of : Mir := mDef 2 b_words_of
def fuel_common_divisor_0 : Sl → Sto → Nat := fun δ _ => natAt δ 1 + 1
def b_common_divisor : RS := (sSeq (sPar 0 1 (rCons (rAs gAbs (rCons (rVar 0) rNil)) (rCons (rAs gAbs (rCons (rVar 1) rNil)) rNil)))
    (sSeq (sWhile fuel_common_divisor_0 (bVal (rBin gGt (rVar 1) (rC (.int 0)))) (sPar 0 1 (rCons (rVar 1) (rCons (rBin gMod (rVar 0) (rVar 1)) rNil))))
    (sRet (rVar 0))))
def m_common_divisor : Mir := mDef 2 b_common_divisor
def b_is_fraction : RS := (sSeq (sIf (bOr (bNot (bTru (rAs gIsi (rCons (rVar 0) (rCons (rC (.ty "tuple")) rNil))))) (bOr (bVal (rBin gNe (rAs gLen (rCons (rVar 0) rNil)) (rC (.int 2)))) (bOr (bNot (bTru (rCall m_is_whole (rCons (rBin gIx (rVar 0) (rC (.int 0))) rNil)))) (bNot (bTru (rCall m_is_whole (rCons (rBin gIx (rVar 0) (rC (.int 1))) rNil))))))) (sRet (rC (.bl false))) sNext)
    (sRet (rAnd (rBin gGt (rBin gIx (rVar 0) (rC (.int 1))) (rC (.int 0))) (rBin gEq (rCall m_common_divisor (rCons (rBin gIx (rVar 0) (rC (.int 0))) (rCons (rBin gIx (rVar 0) (rC (.int 1))) rNil))) (rC (.int 1))))))
def m_is_fraction : Mir := mDef 1 b_is_fraction
def b_choose : RS := (sSeq (sIf (bVal (rBin gGt (rVar 1) (rVar 0))) (sRet (rC (.int 0))) sNext)
    (sSeq (sAsg (rC (.int 1)) (gName 2))
    (sSeq (sFor (rRange (rCons (rVar 1) rNil)) (gName 3) (sAsg (rBin gDiv (rBin gMul (rVar 2) (rBin gSub (rVar 0) (rVar 3))) (rBin gAdd (rVar 3) (rC (.int 1)))) (gName 2)))
    (sRet (rVar 2)))))
def m_choose : Mir := mDef 4 b_choose
def b__law_mixed : RS := (sSeq (sAsg (rBin gAdd (rBin gAdd (rBin gMod (rVar 0) (rC (.int 1000000007))) (rBin gMul (rC (.int 7919)) (rVar 1))) (rC (.int 13))) (gName 0))
    (sRet (rBin gMod (rBin gMul (rBin gMod (rBin gMul (rVar 0) (rVar 0)) (rC (.int 1000000007))) (rC (.int 48271))) (rC (.int 2147483647)))))
def m__law_mixed : Mir := mDef 2 b__law_mixed
def b__law_draw : RS := (sRet (rOwn (rDisp [((rC (.str "left")), (rIf (bVal (rBin gGe (rVar 0) (rBin gPow (rC (.int 10)) (rC (.int 18))))) (rVar 0) (rC (.int 0)))), ((rC (.str "seed")), (rCall m__law_mixed (rCons (rVar 0) (rCons (rVar 1) rNil)))), ((rC (.str "turns")), (rVar 1))])))
def m__law_draw : Mir := mDef 2 b__law_draw
def b__law_digit : RS := (sSeq (sIf (bVal (rBin gEq (rBin gGet (rVar 0) (rC (.str "left"))) (rC (.int 0)))) (sSeq (sPut (rVar 0) (rC (.str "turns")) (rBin gAdd (rBin gGet (rVar 0) (rC (.str "turns"))) (rC (.int 1))))
    (sFor (rRange (rCons (rC (.int 4)) rNil)) (gName 2) (sPut (rVar 0) (rC (.str "left")) (rBin gAdd (rBin gMul (rBin gGet (rVar 0) (rC (.str "left"))) (rC (.int 2147483647))) (rCall m__law_mixed (rCons (rBin gGet (rVar 0) (rC (.str "seed"))) (rCons (rBin gAdd (rBin gMul (rC (.int 4)) (rBin gGet (rVar 0) (rC (.str "turns")))) (rVar 2)) rNil))))))) sNext)
    (sSeq (sAsg (rBin gMod (rBin gGet (rVar 0) (rC (.str "left"))) (rVar 1)) (gName 3))
    (sSeq (sPut (rVar 0) (rC (.str "left")) (rBin gDiv (rBin gGet (rVar 0) (rC (.str "left"))) (rVar 1)))
    (sRet (rVar 3)))))
def m__law_digit : Mir := mDef 4 b__law_digit
def b__law_figures : RS := (sSeq (sAsg (rIf (bVal (rBin gEq (rCut (rVar 0) oNone (oSome (rC (.int 1)))) (rC (.str "-")))) (rCut (rVar 0) (oSome (rC (.int 1))) oNone) (rVar 0)) (gName 1))
    (sSeq (sAsg (rKeep (rLc (rSeq (rVar 1)) (gName 4) [4] (bVal (rBin gNotIn1 (rVar 4) (rC (.str "0123456789")))) (rVar 4))) (gName 2))
    (sSeq (sIf (bOr (bNot (bVal (rChain gLe gLe (rC (.int 1)) (rAs gLen (rCons (rVar 1) rNil)) (rC (.int 40))))) (bOr (bVal (rBin gNe (rVar 2) (rKeep (rLst rNil)))) (bAnd (bVal (rBin gEq (rBin gIx (rVar 1) (rC (.int 0))) (rC (.str "0")))) (bVal (rBin gNe (rVar 0) (rC (.str "0"))))))) (sRet (rC .non)) sNext)
    (sSeq (sAsg (rC (.int 0)) (gName 3))
    (sSeq (sFor (rSeq (rVar 1)) (gName 4) (sAsg (rBin gAdd (rBin gMul (rVar 3) (rC (.int 10))) (rMeth "str" (pureM gIndexS) (rC (.str "0123456789")) (rCons (rVar 4) rNil))) (gName 3)))
    (sRet (rIf (bVal (rBin gEq (rVar 1) (rVar 0))) (rVar 3) (rBin gSub (rC (.int 0)) (rVar 3)))))))))
def m__law_figures : Mir := mDef 5 b__law_figures
def b__law_word_right : RS := (sSeq (sAsg (rCall m__law_figures (rCons (rVar 0) rNil)) (gName 1))
    (sSeq (sAsg (rCall m_number_of (rCons (rVar 0) rNil)) (gName 2))
    (sSeq (sAsg (rKeep (rLc (rSeq (rVar 0)) (gName 6) [6] (bVal (rBin gIn1 (rVar 6) (rC (.str "abcdefghijklmnopqrstuvwxyz")))) (rVar 6))) (gName 3))
    (sSeq (sIf (bOr (bTru (rAs gIsi (rCons (rVar 2) (rCons (rC (.ty "bool")) rNil)))) (bVal (rBin gNe (rVar 2) (rVar 1)))) (sRet (rC (.bl false))) sNext)
    (sSeq (sIf (bVal (rBin gNe (rAs gRepr (rCons (rCall m_is_name (rCons (rVar 0) rNil)) rNil)) (rAs gRepr (rCons (rAnd (rBin gEq (rVar 3) (rKeep (rAs gList (rCons (rVar 0) rNil)))) (rChain gLe gLe (rC (.int 1)) (rAs gLen (rCons (rVar 0) rNil)) (rC (.int 8)))) rNil)))) (sRet (rC (.bl false))) sNext)
    (sSeq (sAsg (rKeep (rSplit (rVar 0) (rC (.str " ")))) (gName 4))
    (sSeq (sAsg (rCall m_words_of (rCons (rVar 0) rNil)) (gName 5))
    (sRet (rAnd (rBin gEq (rVar 5) (rIf (bVal (rBin gInQ (rC (.str "")) (rVar 4))) (rC .non) (rVar 4))) (rOr (rBin gIs (rVar 5) (rC .non)) (rAs gIsi (rCons (rVar 5) (rCons (rC (.ty "list")) rNil)))))))))))))
def m__law_word_right : Mir := mDef 7 b__law_word_right
def b_fraction : RS := (sSeq (sAsg (rBin gMul (rCall m_common_divisor (rCons (rVar 0) (rCons (rVar 1) rNil))) (rIf (bVal (rBin gGt (rVar 1) (rC (.int 0)))) (rC (.int 1)) (rUn gNeg (rC (.int 1))))) (gName 2))
    (sRet (rTup (rCons (rBin gDiv (rVar 0) (rVar 2)) (rCons (rBin gDiv (rVar 1) (rVar 2)) rNil)))))
def m_fraction : Mir := mDef 3 b_fraction
def b_plus : RS := (sRet (rCall m_fraction (rCons (rBin gAdd (rBin gMul (rBin gIx (rVar 0) (rC (.int 0))) (rBin gIx (rVar 1) (rC (.int 1)))) (rBin gMul (rBin gIx (rVar 1) (rC (.int 0))) (rBin gIx (rVar 0) (rC (.int 1))))) (rCons (rBin gMul (rBin gIx (rVar 0) (rC (.int 1))) (rBin gIx (rVar 1) (rC (.int 1)))) rNil))))
def m_plus : Mir := mDef 2 b_plus
def b_less : RS := (sRet (rCall m_fraction (rCons (rBin gSub (rBin gMul (rBin gIx (rVar 0) (rC (.int 0))) (rBin gIx (rVar 1) (rC (.int 1)))) (rBin gMul (rBin gIx (rVar 1) (rC (.int 0))) (rBin gIx (rVar 0) (rC (.int 1))))) (rCons (rBin gMul (rBin gIx (rVar 0) (rC (.int 1))) (rBin gIx (rVar 1) (rC (.int 1)))) rNil))))
def m_less : Mir := mDef 2 b_less
def b_times : RS := (sRet (rCall m_fraction (rCons (rBin gMul (rBin gIx (rVar 0) (rC (.int 0))) (rBin gIx (rVar 1) (rC (.int 0)))) (rCons (rBin gMul (rBin gIx (rVar 0) (rC (.int 1))) (rBin gIx (rVar 1) (rC (.int 1)))) rNil))))
def m_times : Mir := mDef 2 b_times
def b_over : RS := (sRet (rCall m_fraction (rCons (rBin gMul (rBin gIx (rVar 0) (rC (.int 0))) (rBin gIx (rVar 1) (rC (.int 1)))) (rCons (rBin gMul (rBin gIx (rVar 0) (rC (.int 1))) (rBin gIx (rVar 1) (rC (.int 0)))) rNil))))
def m_over : Mir := mDef 2 b_over
def b__law_lowest : RS := (sSeq (sIf (bOr (bNot (bTru (rAs gIsi (rCons (rVar 0) (rCons (rC (.ty "tuple")) rNil))))) (bOr (bVal (rBin gNe (rAs gLen (rCons (rVar 0) rNil)) (rC (.int 2)))) (bOr (bVal (rBin gLt (rBin gIx (rVar 0) (rC (.int 1))) (rC (.int 1)))) (bVal (rBin gIsN (rCall m_is_fraction (rCons (rVar 0) rNil)) (rC (.bl true))))))) (sRet (rC (.bl false))) sNext)
    (sRet (rAnd (rBin gEq (rBin gMul (rBin gIx (rVar 0) (rC (.int 0))) (rVar 2)) (rBin gMul (rVar 1) (rBin gIx (rVar 0) (rC (.int 1))))) (rBin gEq (rCall m_common_divisor (rCons (rBin gIx (rVar 0) (rC (.int 0))) (rCons (rBin gIx (rVar 0) (rC (.int 1))) rNil))) (rC (.int 1))))))
def m__law_lowest : Mir := mDef 3 b__law_lowest
def fuel__law_divided_0 : Sl → Sto → Nat := fun δ _ => natAt δ 4 + 1
def b__law_divided : RS := (sSeq (sAsg (rCall m_common_divisor (rCons (rVar 0) (rCons (rVar 1) rNil))) (gName 2))
    (sSeq (sIf (bVal (rBin gEq (rTup (rCons (rVar 0) (rCons (rVar 1) rNil))) (rTup (rCons (rC (.int 0)) (rCons (rC (.int 0)) rNil))))) (sRet (rBin gEq (rVar 2) (rC (.int 0)))) sNext)
    (sSeq (sIf (bOr (bVal (rBin gLt (rVar 2) (rC (.int 1)))) (bOr (bVal (rBin gNe (rBin gMod (rVar 0) (rVar 2)) (rC (.int 0)))) (bVal (rBin gNe (rBin gMod (rVar 1) (rVar 2)) (rC (.int 0)))))) (sRet (rC (.bl false))) sNext)
    (sSeq (sPar 3 4 (rCons (rAs gAbs (rCons (rBin gDiv (rVar 0) (rVar 2)) rNil)) (rCons (rAs gAbs (rCons (rBin gDiv (rVar 1) (rVar 2)) rNil)) rNil)))
    (sSeq (sWhile fuel__law_divided_0 (bVal (rBin gGt (rVar 4) (rC (.int 0)))) (sPar 3 4 (rCons (rVar 4) (rCons (rBin gMod (rVar 3) (rVar 4)) rNil))))
    (sRet (rBin gEq (rVar 3) (rC (.int 1)))))))))
def m__law_divided : Mir := mDef 5 b__law_divided
def b__law_fractions_right : RS := (sSeq (sAsg (rBin gIx (rKeep (rLst (rCons (rC (.int 9)) (rCons (rC (.int 9)) (rCons (rBin gPow (rC (.int 10)) (rC (.int 20))) rNil))))) (rCall m__law_digit (rCons (rVar 0) (rCons (rC (.int 3)) rNil)))) (gName 1))
    (sSeq (sAsg (rKeep (rLc (rRange (rCons (rC (.int 2)) rNil)) (gName 8) [8] bYes (rBin gSub (rCall m__law_digit (rCons (rVar 0) (rCons (rBin gAdd (rBin gMul (rC (.int 2)) (rVar 1)) (rC (.int 1))) rNil))) (rVar 1)))) (gUnl (gCons (gName 2) (gCons (gName 3) gNil))))
    (sSeq (sAsg (rKeep (rLc (rRange (rCons (rC (.int 2)) rNil)) (gName 8) [8] bYes (rBin gAdd (rC (.int 1)) (rCall m__law_digit (rCons (rVar 0) (rCons (rVar 1) rNil)))))) (gUnl (gCons (gName 4) (gCons (gName 5) gNil))))
    (sSeq (sIf (bOr (bNot (bTru (rCall m__law_divided (rCons (rVar 2) (rCons (rVar 4) rNil))))) (bOr (bNot (bTru (rCall m__law_divided (rCons (rBin gMul (rVar 2) (rVar 3)) (rCons (rBin gMul (rVar 3) (rVar 4)) rNil))))) (bNot (bTru (rCall m__law_lowest (rCons (rCall m_fraction (rCons (rVar 2) (rCons (rBin gSub (rC (.int 0)) (rVar 4)) rNil))) (rCons (rBin gSub (rC (.int 0)) (rVar 2)) (rCons (rVar 4) rNil)))))))) (sRet (rC (.bl false))) sNext)
    (sSeq (sPar 6 7 (rCons (rCall m_fraction (rCons (rVar 2) (rCons (rVar 4) rNil))) (rCons (rCall m_fraction (rCons (rVar 3) (rCons (rVar 5) rNil))) rNil)))
    (sSeq (sIf (bOr (bNot (bTru (rCall m__law_lowest (rCons (rVar 6) (rCons (rVar 2) (rCons (rVar 4) rNil)))))) (bNot (bTru (rCall m__law_lowest (rCons (rCall m_plus (rCons (rVar 6) (rCons (rVar 7) rNil))) (rCons (rBin gAdd (rBin gMul (rVar 2) (rVar 5)) (rBin gMul (rVar 3) (rVar 4))) (rCons (rBin gMul (rVar 4) (rVar 5)) rNil))))))) (sRet (rC (.bl false))) sNext)
    (sSeq (sIf (bOr (bNot (bTru (rCall m__law_lowest (rCons (rCall m_less (rCons (rVar 6) (rCons (rVar 7) rNil))) (rCons (rBin gSub (rBin gMul (rVar 2) (rVar 5)) (rBin gMul (rVar 3) (rVar 4))) (rCons (rBin gMul (rVar 4) (rVar 5)) rNil)))))) (bNot (bTru (rCall m__law_lowest (rCons (rCall m_times (rCons (rVar 6) (rCons (rVar 7) rNil))) (rCons (rBin gMul (rVar 2) (rVar 3)) (rCons (rBin gMul (rVar 4) (rVar 5)) rNil))))))) (sRet (rC (.bl false))) sNext)
    (sRet (rOr (rBin gEq (rVar 3) (rC (.int 0))) (rCall m__law_lowest (rCons (rCall m_over (rCons (rVar 6) (rCons (rVar 7) rNil))) (rCons (rBin gMul (rVar 2) (rVar 5)) (rCons (rBin gMul (rVar 3) (rVar 4)) rNil)))))))))))))
def m__law_fractions_right : Mir := mDef 9 b__law_fractions_right
def b__law_row : RS := (sSeq (sAsg (rKeep (rLst (rCons (rC (.int 1)) rNil))) (gName 1))
    (sSeq (sFor (rRange (rCons (rVar 0) rNil)) (gName 2) (sAsg (rKeep (rBin gCat (rKeep (rBin gCat (rKeep (rLst (rCons (rC (.int 1)) rNil))) (rKeep (rLc (rRange (rCons (rVar 2) rNil)) (gName 3) [3] bYes (rBin gAdd (rBin gIx (rVar 1) (rVar 3)) (rBin gIx (rVar 1) (rBin gAdd (rVar 3) (rC (.int 1))))))))) (rKeep (rLst (rCons (rC (.int 1)) rNil))))) (gName 1)))
    (sRet (rVar 1))))
def m__law_row : Mir := mDef 4 b__law_row
def b_law : RS := (sSeq (sFor (rEnum (rCons (rKeep (rBin gCat (rCut (rVar 0) oNone (oSome (rC (.int 20)))) (rKeep (rLst (rCons (rAs gSum (rCons (rVar 0) rNil)) rNil))))) rNil)) (gTup (gCons (gName 1) (gCons (gName 2) gNil))) (sSeq (sAsg (rCall m__law_draw (rCons (rVar 2) (rCons (rVar 1) rNil))) (gName 3))
    (sSeq (sAsg (rBin gIx (rKeep (rLst (rCons (rC (.str "0123456789")) (rCons (rC (.str "abcdefghijklmnopqrstuvwxyz")) (rCons (rC (.str "01-")) (rCons (rC (.str "Aaz_ -\n.1;\x7e\x40[\x60{/:")) rNil)))))) (rCall m__law_digit (rCons (rVar 3) (rCons (rC (.int 4)) rNil)))) (gName 4))
    (sSeq (sAsg (rMeth "str" (pureM gJoin) (rC (.str "")) (rCons (rKeep (rLc (rRange (rCons (rCall m__law_digit (rCons (rVar 3) (rCons (rC (.int 12)) rNil))) rNil)) (gName 11) [11] bYes (rBin gIx (rVar 4) (rCall m__law_digit (rCons (rVar 3) (rCons (rAs gLen (rCons (rVar 4) rNil)) rNil)))))) rNil)) (gName 5))
    (sSeq (sAsg (rAs gStr (rCons (rBin gMod (rAs gAbs (rCons (rVar 2) rNil)) (rBin gPow (rC (.int 10)) (rC (.int 40)))) rNil)) (gName 6))
    (sSeq (sFor (rSeq (rKeep (rLst (rCons (rVar 5) (rCons (rBin gAdd (rC (.str "-")) (rVar 5)) (rCons (rVar 6) (rCons (rBin gAdd (rC (.str "-")) (rVar 6)) (rCons (rBin gAdd (rC (.str "1")) (rBin gMulS (rC (.str "0")) (rC (.int 39)))) (rCons (rBin gAdd (rC (.str "-")) (rBin gMulS (rC (.str "9")) (rC (.int 40)))) rNil))))))))) (gName 7) (sIf (bNot (bTru (rCall m__law_word_right (rCons (rVar 7) rNil)))) (sRet (rC (.bl false))) sNext))
    (sSeq (sFor (rSeq (rKeep (rLst (rCons (rBin gAdd (rC (.str "0")) (rVar 6)) (rCons (rBin gMulS (rC (.str "7")) (rC (.int 41))) (rCons (rBin gMulS (rC (.str "7")) (rC (.int 5000))) rNil)))))) (gName 7) (sIf (bNot (bTru (rCall m__law_word_right (rCons (rVar 7) rNil)))) (sRet (rC (.bl false))) sNext))
    (sSeq (sIf (bNot (bTru (rCall m__law_fractions_right (rCons (rVar 3) rNil)))) (sRet (rC (.bl false))) sNext)
    (sSeq (sAsg (rCall m__law_digit (rCons (rVar 3) (rCons (rC (.int 21)) rNil))) (gName 8))
    (sSeq (sIf (bVal (rBin gNe (rKeep (rLc (rRange (rCons (rBin gAdd (rVar 8) (rC (.int 3))) rNil)) (gName 11) [11] bYes (rCall m_choose (rCons (rVar 8) (rCons (rVar 11) rNil))))) (rKeep (rBin gCat (rCall m__law_row (rCons (rVar 8) rNil)) (rKeep (rLst (rCons (rC (.int 0)) (rCons (rC (.int 0)) rNil)))))))) (sRet (rC (.bl false))) sNext)
    (sSeq (sAsg (rBin gIx (rKeep (rLst (rCons (rC .non) (rCons (rC (.bl true)) (rCons (rC (.int 7)) (rCons (rKeep (rLst rNil)) (rCons (rKeep (rLst (rCons (rC (.str "a")) rNil))) (rCons (rOwn (rC (.dct []))) (rCons (rTup (rCons (rC (.str "a")) rNil)) (rCons (rUn gNeg (rC (.int 2))) rNil)))))))))) (rCall m__law_digit (rCons (rVar 3) (rCons (rC (.int 8)) rNil)))) (gName 9))
    (sSeq (sIf (bOr (bVal (rBin gIsN (rCall m_number_of (rCons (rVar 9) rNil)) (rC .non))) (bOr (bVal (rBin gIsN (rCall m_words_of (rCons (rVar 9) rNil)) (rC .non))) (bVal (rBin gIsN (rCall m_is_name (rCons (rVar 9) rNil)) (rC (.bl false)))))) (sRet (rC (.bl false))) sNext)
    (sSeq (sAsg (rBin gInQ (rAs gRepr (rCons (rVar 9) rNil)) (rTup (rCons (rC (.str "7")) (rCons (rC (.str "-2")) rNil)))) (gName 10))
    (sSeq (sIf (bVal (rBin gNe (rAs gRepr (rCons (rKeep (rLst (rCons (rCall m_is_whole (rCons (rVar 9) rNil)) (rCons (rCall m_is_among (rCons (rVar 9) (rCons (rUn gNeg (rC (.int 2))) (rCons (rC (.int 7)) rNil)))) (rCons (rCall m_is_among (rCons (rVar 9) (rCons (rUn gNeg (rC (.int 1))) (rCons (rC (.int 6)) rNil)))) rNil))))) rNil)) (rAs gRepr (rCons (rKeep (rLst (rCons (rVar 10) (rCons (rVar 10) (rCons (rC (.bl false)) rNil))))) rNil)))) (sRet (rC (.bl false))) sNext)
    (sSeq (sAsg (rBin gIx (rKeep (rLst (rCons (rTup (rCons (rC (.int 2)) (rCons (rC (.int 4)) rNil))) (rCons (rTup (rCons (rC (.int 1)) (rCons (rC (.int 0)) rNil))) (rCons (rTup (rCons (rC (.int 1)) (rCons (rUn gNeg (rC (.int 2))) rNil))) (rCons (rTup (rCons (rC (.bl true)) (rCons (rC (.int 1)) rNil))) (rCons (rKeep (rLst (rCons (rC (.int 1)) (rCons (rC (.int 2)) rNil)))) (rCons (rTup (rCons (rC (.int 1)) (rCons (rC (.int 2)) (rCons (rC (.int 1)) rNil)))) (rCons (rTup (rCons (rC (.int 0)) (rCons (rC (.int 2)) rNil))) (rCons (rC .non) (rCons (rC (.str "1/2")) (rCons (rTup (rCons (rC (.int 1)) rNil)) rNil)))))))))))) (rCall m__law_digit (rCons (rVar 3) (rCons (rC (.int 10)) rNil)))) (gName 9))
    (sIf (bOr (bVal (rBin gIsN (rCall m_is_fraction (rCons (rVar 9) rNil)) (rC (.bl false)))) (bVal (rBin gIsN (rCall m_is_fraction (rCons (rTup (rCons (rC (.int 0)) (rCons (rC (.int 1)) rNil))) rNil)) (rC (.bl true))))) (sRet (rC (.bl false))) sNext))))))))))))))))
    (sRet (rAnd (rBin gEq (rCall m_choose (rCons (rC (.int 200)) (rCons (rC (.int 100)) rNil))) (rBin gIx (rCall m__law_row (rCons (rC (.int 200)) rNil)) (rC (.int 100)))) (rBin gEq (rCall m_common_divisor (rCons (rC (.int 0)) (rCons (rC (.int 0)) rNil))) (rC (.int 0))))))
def m_law : Mir := mDef 12 b_law
end DL

set_option Elab.async false
set_option linter.all false
set_option maxRecDepth 100000
set_option maxHeartbeats 0
set_option autoImplicit false
namespace DL
open PySem PySem.Spec PyProof.Rows L2
def top (i : Nat) : Stmt := PySem.Challenge.pw_roundless_k01_words_and_fractions.main.body.getD i (.Pass ⟨0, 0, 0, 0⟩)
abbrev st_is_whole : Stmt := top 5
abbrev st_is_among : Stmt := top 6
abbrev st_is_name : Stmt := top 7
abbrev st_number_of : Stmt := top 8
abbrev st_words_of : Stmt := top 9
abbrev st_common_divisor : Stmt := top 11
abbrev st_is_fraction : Stmt := top 13
abbrev st_choose : Stmt := top 18
abbrev st__law_mixed : Stmt := top 20
abbrev st__law_draw : Stmt := top 21
abbrev st__law_digit : Stmt := top 22
abbrev st__law_figures : Stmt := top 23
abbrev st__law_word_right : Stmt := top 24
abbrev st_fraction : Stmt := top 12
abbrev st_plus : Stmt := top 14
abbrev st_less : Stmt := top 15
abbrev st_times : Stmt := top 16
abbrev st_over : Stmt := top 17
abbrev st__law_lowest : Stmt := top 25
abbrev st__law_divided : Stmt := top 26
abbrev st__law_fractions_right : Stmt := top 27
abbrev st__law_row : Stmt := top 28
abbrev st_law : Stmt := top 29
/-- what the text gives -/
structure Txt (K : Fg) (mg : Str → Option Value) : Prop where
  d_is_whole : Fd K mg "is_whole" st_is_whole ["thing"]
  d_is_among : Fd K mg "is_among" st_is_among ["thing", "least", "most"]
  d_is_name : Fd K mg "is_name" st_is_name ["thing"]
  d_number_of : Fd K mg "number_of" st_number_of ["word"]
  d_words_of : Fd K mg "words_of" st_words_of ["row"]
  d_common_divisor : Fd K mg "common_divisor" st_common_divisor ["one", "other"]
  d_is_fraction : Fd K mg "is_fraction" st_is_fraction ["thing"]
  d_choose : Fd K mg "choose" st_choose ["many", "some"]
  d__law_mixed : Fd K mg "_law_mixed" st__law_mixed ["_law_cell", "_law_k"]
  d__law_draw : Fd K mg "_law_draw" st__law_draw ["_law_cell", "_law_k"]
  d__law_digit : Fd K mg "_law_digit" st__law_digit ["_law_state", "_law_many"]
  d__law_figures : Fd K mg "_law_figures" st__law_figures ["_law_word"]
  d__law_word_right : Fd K mg "_law_word_right" st__law_word_right ["_law_word"]
  d_fraction : Fd K mg "fraction" st_fraction ["above", "below"]
  d_plus : Fd K mg "plus" st_plus ["one", "other"]
  d_less : Fd K mg "less" st_less ["one", "other"]
  d_times : Fd K mg "times" st_times ["one", "other"]
  d_over : Fd K mg "over" st_over ["one", "other"]
  d__law_lowest : Fd K mg "_law_lowest" st__law_lowest ["_law_found", "_law_above", "_law_below"]
  d__law_divided : Fd K mg "_law_divided" st__law_divided ["_law_one", "_law_other"]
  d__law_fractions_right : Fd K mg "_law_fractions_right" st__law_fractions_right ["_law_state"]
  d__law_row : Fd K mg "_law_row" st__law_row ["_law_many"]
  d_law : Fd K mg "law" st_law ["_law_script"]
  n_abs : mg "abs" = none
  n_all : mg "all" = none
  n_bool : mg "bool" = none
  n_enumerate : mg "enumerate" = none
  n_int : mg "int" = none
  n_isinstance : mg "isinstance" = none
  n_len : mg "len" = none
  n_list : mg "list" = none
  n_range : mg "range" = none
  n_repr : mg "repr" = none
  n_str : mg "str" = none
  n_sum : mg "sum" = none
  n_tuple : mg "tuple" = none
  g_FIGURES : ∃ t, mg "FIGURES" = some (.str "0123456789" t)
  g_LETTERS : ∃ t, mg "LETTERS" = some (.str "abcdefghijklmnopqrstuvwxyz" t)
  g_MOST_FIGURES : ∃ t, mg "MOST_FIGURES" = some (.int 40 t)
  g_MOST_LETTERS : ∃ t, mg "MOST_LETTERS" = some (.int 8 t)
section
variable {P : Program} {w : World} {K : Fg} {mg : Str → Option Value} {base : Heap}
theorem sc_is_whole : FnScope ["thing"] ["thing"] (defScope st_is_whole) := ⟨rfl, rfl, rfl, by decide +kernel, rfl, by decide +kernel, by decide +kernel⟩
theorem ok_is_whole (T : Txt K mg) : Fn P w K mg base "is_whole" 1 1 m_is_whole := fn_mk (N := ["thing"]) (ps := ["thing"]) (r := b_is_whole) T.d_is_whole sc_is_whole fun f cdv A outer s H E en tk =>
  have nd := sc_is_whole.nd
  (psds_one (psd_ret (pd_and (pd_callB (hv := bv_isinstance) b_isi T.n_isinstance (pds_cons (pd_var 0) (pds_cons (pd_ty (hv := bv_int) T.n_int) pds_nil))) (pd_one (pd_not (pd_callB (hv := bv_isinstance) b_isi T.n_isinstance (pds_cons (pd_var 0) (pds_cons (pd_ty (hv := bv_bool) T.n_bool) pds_nil))))))))
theorem sc_is_among : FnScope ["thing", "least", "most"] ["thing", "least", "most"] (defScope st_is_among) := ⟨rfl, rfl, rfl, by decide +kernel, rfl, by decide +kernel, by decide +kernel⟩
theorem ok_is_among (T : Txt K mg) : Fn P w K mg base "is_among" 3 2 m_is_among := fn_mk (N := ["thing", "least", "most"]) (ps := ["thing", "least", "most"]) (r := b_is_among) T.d_is_among sc_is_among fun f cdv A outer s H E en tk =>
  have nd := sc_is_among.nd
  (psds_one (psd_ret (pd_and (pd_fn (ok_is_whole T) (en.room.mono (by decide)) en.gu tk (pds_cons (pd_var 0) pds_nil)) (pd_one (pd_chain2 g_le g_le (pd_var 1) (pd_var 0) (pd_var 2)).1))))
theorem sc_is_name : FnScope ["thing", "sign"] ["thing"] (defScope st_is_name) := ⟨rfl, rfl, rfl, by decide +kernel, rfl, by decide +kernel, by decide +kernel⟩
theorem ok_is_name (T : Txt K mg) : Fn P w K mg base "is_name" 1 1 m_is_name := fn_mk (N := ["thing", "sign"]) (ps := ["thing"]) (r := b_is_name) T.d_is_name sc_is_name fun f cdv A outer s H E en tk =>
  have nd := sc_is_name.nd
  (psds_cons (psd_if (pb_w (pw_orD (pb_not (pb_tru (pd_callB (hv := bv_isinstance) b_isi T.n_isinstance (pds_cons (pd_var 0) (pds_cons (pd_ty (hv := bv_str) T.n_str) pds_nil))))) (pw_or1D (pb_not (pd_chain2 g_le g_le pd_int (pd_callB (hv := bv_len) b_len T.n_len (pds_cons (pd_var 0) pds_nil)) (pd_giE T.g_MOST_LETTERS)).2)))) (psds_one (psd_ret pd_bl)) psds_nil)
    (psds_one (psd_ret (pd_callB (hv := bv_all) (b_all rfl) T.n_all (pds_cons (pd_keep (pf_lc rfl nd (pid_seq (pd_var 0)) (own := [("sign", 1)]) (blkOk_by (by kernel_rfl)) (plc_no (fun _ _ _ _ _ => (pgx_name 1 nd)) (fun _ _ _ _ _ => (pd_cmp g_in1 (pd_var 1) (pd_gsE T.g_LETTERS) (by rfl)))))) pds_nil)))))
theorem sc_number_of : FnScope ["word", "plain", "sign"] ["word"] (defScope st_number_of) := ⟨rfl, rfl, rfl, by decide +kernel, rfl, by decide +kernel, by decide +kernel⟩
theorem ok_number_of (T : Txt K mg) : Fn P w K mg base "number_of" 1 1 m_number_of := fn_mk (N := ["word", "plain", "sign"]) (ps := ["word"]) (r := b_number_of) T.d_number_of sc_number_of fun f cdv A outer s H E en tk =>
  have nd := sc_number_of.nd
  (psds_cons (psd_if (pb_not (pb_tru (pd_callB (hv := bv_isinstance) b_isi T.n_isinstance (pds_cons (pd_var 0) (pds_cons (pd_ty (hv := bv_str) T.n_str) pds_nil))))) (psds_one (psd_ret pd_non)) psds_nil)
    (psds_cons (psd_asg (pd_if (pb_tru (pd_meth m_starts PySem.F.plainAttrs_str PySem.F.slot_str_startswith PySem.F.type_str_startswith (pd_var 0) (pds_cons pd_str pds_nil))) (pd_cut (pd_var 0) (pod_some pd_int) pod_none) (pd_var 0)) (pgd_name 1 nd).pg)
    (psds_cons (psd_if (pb_w (pw_orD (pb_not (pd_chain2 g_le g_le pd_int (pd_callB (hv := bv_len) b_len T.n_len (pds_cons (pd_var 1) pds_nil)) (pd_giE T.g_MOST_FIGURES)).2) (pw_or1D (pb_not (pb_tru (pd_callB (hv := bv_all) (b_all rfl) T.n_all (pds_cons (pd_keep (pf_lc rfl nd (pid_seq (pd_var 1)) (own := [("sign", 2)]) (blkOk_by (by kernel_rfl)) (plc_no (fun _ _ _ _ _ => (pgx_name 2 nd)) (fun _ _ _ _ _ => (pd_cmp g_in1 (pd_var 2) (pd_gsE T.g_FIGURES) (by rfl)))))) pds_nil))))))) (psds_one (psd_ret pd_non)) psds_nil)
    (psds_cons (psd_if (pb_w (pw_andD (pb_cmp (g_eq en.u64) (pd_ix (pd_var 1) pd_int) pd_str (by rfl)) (pw_and1D (pb_cmp (g_ne en.u64) (pd_var 0) pd_str (by rfl))))) (psds_one (psd_ret pd_non)) psds_nil)
    (psds_one (psd_ret (pd_callT (hv := bv_int) b_int T.n_int (pds_cons (pd_var 0) pds_nil))))))))
theorem sc_words_of : FnScope ["row", "found"] ["row"] (defScope st_words_of) := ⟨rfl, rfl, rfl, by decide +kernel, rfl, by decide +kernel, by decide +kernel⟩
theorem ok_words_of (T : Txt K mg) : Fn P w K mg base "words_of" 1 1 m_words_of := fn_mk (N := ["row", "found"]) (ps := ["row"]) (r := b_words_of) T.d_words_of sc_words_of fun f cdv A outer s H E en tk =>
  have nd := sc_words_of.nd
  (psds_cons (psd_if (pb_not (pb_tru (pd_callB (hv := bv_isinstance) b_isi T.n_isinstance (pds_cons (pd_var 0) (pds_cons (pd_ty (hv := bv_str) T.n_str) pds_nil))))) (psds_one (psd_ret pd_non)) psds_nil)
    (psds_cons (psd_asg (pd_keep (pf_split (pd_var 0) pd_str)) (pgd_name 1 nd).pg)
    (psds_cons (psd_if (pb_cmp g_inQ pd_str (pd_var 1) (by rfl)) (psds_one (psd_ret pd_non)) psds_nil)
    (psds_one (psd_ret (pd_var 1))))))
theorem sc_common_divisor : FnScope ["one", "other"] ["one", "other"] (defScope st_common_divisor) := ⟨rfl, rfl, rfl, by decide +kernel, rfl, by decide +kernel, by decide +kernel⟩
theorem ok_common_divisor (T : Txt K mg) : Fn P w K mg base "common_divisor" 2 1 m_common_divisor := fn_mk (N := ["one", "other"]) (ps := ["one", "other"]) (r := b_common_divisor) T.d_common_divisor sc_common_divisor fun f cdv A outer s H E en tk =>
  have nd := sc_common_divisor.nd
  (psds_cons (psd_par rfl nd (pds_cons (pd_callB (hv := bv_abs) b_abs T.n_abs (pds_cons (pd_var 0) pds_nil)) (pds_cons (pd_callB (hv := bv_abs) b_abs T.n_abs (pds_cons (pd_var 1) pds_nil)) pds_nil)))
    (psds_cons (psd_while fuel_common_divisor_0 en.hp (pb_cmp g_gt (pd_var 1) pd_int (by rfl)) (psds_one (psd_par rfl nd (pds_cons (pd_var 1) (pds_cons (pd_bin g_mod (pd_var 0) (pd_var 1)) pds_nil)))))
    (psds_one (psd_ret (pd_var 0)))))
theorem sc_is_fraction : FnScope ["thing"] ["thing"] (defScope st_is_fraction) := ⟨rfl, rfl, rfl, by decide +kernel, rfl, by decide +kernel, by decide +kernel⟩
theorem ok_is_fraction (T : Txt K mg) : Fn P w K mg base "is_fraction" 1 2 m_is_fraction := fn_mk (N := ["thing"]) (ps := ["thing"]) (r := b_is_fraction) T.d_is_fraction sc_is_fraction fun f cdv A outer s H E en tk =>
  have nd := sc_is_fraction.nd
  (psds_cons (psd_if (pb_w (pw_orD (pb_not (pb_tru (pd_callB (hv := bv_isinstance) b_isi T.n_isinstance (pds_cons (pd_var 0) (pds_cons (pd_ty (hv := bv_tuple) T.n_tuple) pds_nil))))) (pw_orD (pb_cmp (g_ne en.u64) (pd_callB (hv := bv_len) b_len T.n_len (pds_cons (pd_var 0) pds_nil)) pd_int (by rfl)) (pw_orD (pb_not (pb_tru (pd_fn (ok_is_whole T) (en.room.mono (by decide)) en.gu tk (pds_cons (pd_ix (pd_var 0) pd_int) pds_nil)))) (pw_or1D (pb_not (pb_tru (pd_fn (ok_is_whole T) (en.room.mono (by decide)) en.gu tk (pds_cons (pd_ix (pd_var 0) pd_int) pds_nil))))))))) (psds_one (psd_ret pd_bl)) psds_nil)
    (psds_one (psd_ret (pd_and (pd_cmp g_gt (pd_ix (pd_var 0) pd_int) pd_int (by rfl)) (pd_one (pd_cmp (g_eq en.u64) (pd_fn (ok_common_divisor T) (en.room.mono (by decide)) en.gu tk (pds_cons (pd_ix (pd_var 0) pd_int) (pds_cons (pd_ix (pd_var 0) pd_int) pds_nil))) pd_int (by rfl)))))))
theorem sc_choose : FnScope ["many", "some", "found", "place"] ["many", "some"] (defScope st_choose) := ⟨rfl, rfl, rfl, by decide +kernel, rfl, by decide +kernel, by decide +kernel⟩
theorem ok_choose (T : Txt K mg) : Fn P w K mg base "choose" 2 1 m_choose := fn_mk (N := ["many", "some", "found", "place"]) (ps := ["many", "some"]) (r := b_choose) T.d_choose sc_choose fun f cdv A outer s H E en tk =>
  have nd := sc_choose.nd
  (psds_cons (psd_if (pb_cmp g_gt (pd_var 1) (pd_var 0) (by rfl)) (psds_one (psd_ret pd_int)) psds_nil)
    (psds_cons (psd_asg pd_int (pgd_name 2 nd).pg)
    (psds_cons (psd_for en.hp rfl (pid_range1 T.n_range (pds_cons (pd_var 1) pds_nil)) (pgd_name 3 nd).pg (psds_one (psd_asg (pd_bin g_div (pd_bin g_mul (pd_var 2) (pd_bin g_sub (pd_var 0) (pd_var 3))) (pd_bin g_add (pd_var 3) pd_int)) (pgd_name 2 nd).pg)))
    (psds_one (psd_ret (pd_var 2))))))
theorem sc__law_mixed : FnScope ["_law_cell", "_law_k"] ["_law_cell", "_law_k"] (defScope st__law_mixed) := ⟨rfl, rfl, rfl, by decide +kernel, rfl, by decide +kernel, by decide +kernel⟩
theorem ok__law_mixed (T : Txt K mg) : Fn P w K mg base "_law_mixed" 2 1 m__law_mixed := fn_mk (N := ["_law_cell", "_law_k"]) (ps := ["_law_cell", "_law_k"]) (r := b__law_mixed) T.d__law_mixed sc__law_mixed fun f cdv A outer s H E en tk =>
  have nd := sc__law_mixed.nd
  (psds_cons (psd_asg (pd_bin g_add (pd_bin g_add (pd_bin g_mod (pd_var 0) pd_int) (pd_bin g_mul pd_int (pd_var 1))) pd_int) (pgd_name 0 nd).pg)
    (psds_one (psd_ret (pd_bin g_mod (pd_bin g_mul (pd_bin g_mod (pd_bin g_mul (pd_var 0) (pd_var 0)) pd_int) pd_int) pd_int))))
theorem sc__law_draw : FnScope ["_law_cell", "_law_k"] ["_law_cell", "_law_k"] (defScope st__law_draw) := ⟨rfl, rfl, rfl, by decide +kernel, rfl, by decide +kernel, by decide +kernel⟩
theorem ok__law_draw (T : Txt K mg) : Fn P w K mg base "_law_draw" 2 2 m__law_draw := fn_mk (N := ["_law_cell", "_law_k"]) (ps := ["_law_cell", "_law_k"]) (r := b__law_draw) T.d__law_draw sc__law_draw fun f cdv A outer s H E en tk =>
  have nd := sc__law_draw.nd
  (psds_one (psd_ret (pd_own (pf_disp (ppd_cons pd_str (pd_if (pb_cmp g_ge (pd_var 0) (pd_bin g_pow pd_int pd_int) (by rfl)) (pd_var 0) pd_int) (ppd_cons pd_str (pd_fn (ok__law_mixed T) (en.room.mono (by decide)) en.gu tk (pds_cons (pd_var 0) (pds_cons (pd_var 1) pds_nil))) (ppd_cons pd_str (pd_var 1) ppd_nil)))))))
theorem sc__law_digit : FnScope ["_law_state", "_law_many", "_law_j", "_law_found"] ["_law_state", "_law_many"] (defScope st__law_digit) := ⟨rfl, rfl, rfl, by decide +kernel, rfl, by decide +kernel, by decide +kernel⟩
theorem ok__law_digit (T : Txt K mg) : Fn P w K mg base "_law_digit" 2 2 m__law_digit := fn_mk (N := ["_law_state", "_law_many", "_law_j", "_law_found"]) (ps := ["_law_state", "_law_many"]) (r := b__law_digit) T.d__law_digit sc__law_digit fun f cdv A outer s H E en tk =>
  have nd := sc__law_digit.nd
  (psds_cons (psd_if (pb_cmp (g_eq en.u64) (pd_get en.u1 (pd_var 0) pd_str) pd_int (by rfl)) (psds_cons (psd_put en.u1 (pd_var 0) pd_str (pd_bin g_add (pd_get en.u1 (pd_var 0) pd_str) pd_int))
    (psds_one (psd_for en.hp rfl (pid_range1 T.n_range (pds_cons pd_int pds_nil)) (pgd_name 2 nd).pg (psds_one (psd_put en.u1 (pd_var 0) pd_str (pd_bin g_add (pd_bin g_mul (pd_get en.u1 (pd_var 0) pd_str) pd_int) (pd_fn (ok__law_mixed T) (en.room.mono (by decide)) en.gu tk (pds_cons (pd_get en.u1 (pd_var 0) pd_str) (pds_cons (pd_bin g_add (pd_bin g_mul pd_int (pd_get en.u1 (pd_var 0) pd_str)) (pd_var 2)) pds_nil))))))))) psds_nil)
    (psds_cons (psd_asg (pd_bin g_mod (pd_get en.u1 (pd_var 0) pd_str) (pd_var 1)) (pgd_name 3 nd).pg)
    (psds_cons (psd_put en.u1 (pd_var 0) pd_str (pd_bin g_div (pd_get en.u1 (pd_var 0) pd_str) (pd_var 1)))
    (psds_one (psd_ret (pd_var 3))))))
theorem sc__law_figures : FnScope ["_law_word", "_law_figures_here", "_law_others", "_law_found", "_law_letter"] ["_law_word"] (defScope st__law_figures) := ⟨rfl, rfl, rfl, by decide +kernel, rfl, by decide +kernel, by decide +kernel⟩
theorem ok__law_figures (T : Txt K mg) : Fn P w K mg base "_law_figures" 1 1 m__law_figures := fn_mk (N := ["_law_word", "_law_figures_here", "_law_others", "_law_found", "_law_letter"]) (ps := ["_law_word"]) (r := b__law_figures) T.d__law_figures sc__law_figures fun f cdv A outer s H E en tk =>
  have nd := sc__law_figures.nd
  (psds_cons (psd_asg (pd_if (pb_cmp (g_eq en.u64) (pd_cut (pd_var 0) pod_none (pod_some pd_int)) pd_str (by rfl)) (pd_cut (pd_var 0) (pod_some pd_int) pod_none) (pd_var 0)) (pgd_name 1 nd).pg)
    (psds_cons (psd_setLc (i := 2) rfl nd (pid_seq (pd_var 1)) (own := [("_law_letter", 4)]) (blkOk_by (by kernel_rfl)) (plc_if (fun _ _ _ _ _ => (pgx_name 4 nd)) (fun _ _ _ _ _ => (pb_cmp g_notIn1 (pd_var 4) pd_str (by rfl))) (fun _ _ _ _ _ => (pd_var 4))) (sw_true rfl rfl rfl rfl)).1
    (psds_cons (psd_if (pb_w (pw_orD (pb_not (pd_chain2 g_le g_le pd_int (pd_callB (hv := bv_len) b_len T.n_len (pds_cons (pd_var 1) pds_nil)) pd_int).2) (pw_orD (pb_cmp (g_ne en.u64) (pd_var 2) (pd_keep (pf_lst pds_nil)) (by rfl)) (pw_or1D (pb_w (pw_andD (pb_cmp (g_eq en.u64) (pd_ix (pd_var 1) pd_int) pd_str (by rfl)) (pw_and1D (pb_cmp (g_ne en.u64) (pd_var 0) pd_str (by rfl))))))))) (psds_one (psd_ret pd_non)) psds_nil)
    (psds_cons (psd_asg pd_int (pgd_name 3 nd).pg)
    (psds_cons (psd_for en.hp rfl (pid_seq (pd_var 1)) (pgd_name 4 nd).pg (psds_one (psd_asg (pd_bin g_add (pd_bin g_mul (pd_var 3) pd_int) (pd_meth m_indexS PySem.F.plainAttrs_str PySem.F.slot_str_index PySem.F.type_str_index pd_str (pds_cons (pd_var 4) pds_nil))) (pgd_name 3 nd).pg)))
    (psds_one (psd_ret (pd_if (pb_cmp (g_eq en.u64) (pd_var 1) (pd_var 0) (by rfl)) (pd_var 3) (pd_bin g_sub pd_int (pd_var 3))))))))))
theorem sc__law_word_right : FnScope ["_law_word", "_law_due", "_law_found", "_law_letters", "_law_parts", "_law_told", "_law_letter"] ["_law_word"] (defScope st__law_word_right) := ⟨rfl, rfl, rfl, by decide +kernel, rfl, by decide +kernel, by decide +kernel⟩
theorem ok__law_word_right (T : Txt K mg) : Fn P w K mg base "_law_word_right" 1 2 m__law_word_right := fn_mk (N := ["_law_word", "_law_due", "_law_found", "_law_letters", "_law_parts", "_law_told", "_law_letter"]) (ps := ["_law_word"]) (r := b__law_word_right) T.d__law_word_right sc__law_word_right fun f cdv A outer s H E en tk =>
  have nd := sc__law_word_right.nd
  (psds_cons (psd_asg (pd_fn (ok__law_figures T) (en.room.mono (by decide)) en.gu tk (pds_cons (pd_var 0) pds_nil)) (pgd_name 1 nd).pg)
    (psds_cons (psd_asg (pd_fn (ok_number_of T) (en.room.mono (by decide)) en.gu tk (pds_cons (pd_var 0) pds_nil)) (pgd_name 2 nd).pg)
    (psds_cons (psd_setLc (i := 3) rfl nd (pid_seq (pd_var 0)) (own := [("_law_letter", 6)]) (blkOk_by (by kernel_rfl)) (plc_if (fun _ _ _ _ _ => (pgx_name 6 nd)) (fun _ _ _ _ _ => (pb_cmp g_in1 (pd_var 6) pd_str (by rfl))) (fun _ _ _ _ _ => (pd_var 6))) (sw_true rfl rfl rfl rfl)).1
    (psds_cons (psd_if (pb_w (pw_orD (pb_tru (pd_callB (hv := bv_isinstance) b_isi T.n_isinstance (pds_cons (pd_var 2) (pds_cons (pd_ty (hv := bv_bool) T.n_bool) pds_nil)))) (pw_or1D (pb_cmp (g_ne en.u64) (pd_var 2) (pd_var 1) (by rfl))))) (psds_one (psd_ret pd_bl)) psds_nil)
    (psds_cons (psd_if (pb_cmp (g_ne en.u64) (pd_callB (hv := bv_repr) (b_repr en.gu en.u80) T.n_repr (pds_cons (pd_fn (ok_is_name T) (en.room.mono (by decide)) en.gu tk (pds_cons (pd_var 0) pds_nil)) pds_nil)) (pd_callB (hv := bv_repr) (b_repr en.gu en.u80) T.n_repr (pds_cons (pd_and (pd_cmp (g_eq en.u64) (pd_var 3) (pd_keep (pf_list rfl T.n_list (pds_cons (pd_var 0) pds_nil))) (by rfl)) (pd_one (pd_chain2 g_le g_le pd_int (pd_callB (hv := bv_len) b_len T.n_len (pds_cons (pd_var 0) pds_nil)) pd_int).1)) pds_nil)) (by rfl)) (psds_one (psd_ret pd_bl)) psds_nil)
    (psds_cons (psd_asg (pd_keep (pf_split (pd_var 0) pd_str)) (pgd_name 4 nd).pg)
    (psds_cons (psd_asg (pd_fn (ok_words_of T) (en.room.mono (by decide)) en.gu tk (pds_cons (pd_var 0) pds_nil)) (pgd_name 5 nd).pg)
    (psds_one (psd_ret (pd_and (pd_cmp (g_eq en.u64) (pd_var 5) (pd_if (pb_cmp g_inQ pd_str (pd_var 4) (by rfl)) pd_non (pd_var 4)) (by rfl)) (pd_one (pd_or (pd_cmp g_is (pd_var 5) pd_non (by rfl)) (pd_one (pd_callB (hv := bv_isinstance) b_isi T.n_isinstance (pds_cons (pd_var 5) (pds_cons (pd_ty (hv := bv_list) T.n_list) pds_nil))))))))))))))))
theorem sc_fraction : FnScope ["above", "below", "divisor"] ["above", "below"] (defScope st_fraction) := ⟨rfl, rfl, rfl, by decide +kernel, rfl, by decide +kernel, by decide +kernel⟩
theorem ok_fraction (T : Txt K mg) : Fn P w K mg base "fraction" 2 2 m_fraction := fn_mk (N := ["above", "below", "divisor"]) (ps := ["above", "below"]) (r := b_fraction) T.d_fraction sc_fraction fun f cdv A outer s H E en tk =>
  have nd := sc_fraction.nd
  (psds_cons (psd_asg (pd_bin g_mul (pd_fn (ok_common_divisor T) (en.room.mono (by decide)) en.gu tk (pds_cons (pd_var 0) (pds_cons (pd_var 1) pds_nil))) (pd_if (pb_cmp g_gt (pd_var 1) pd_int (by rfl)) pd_int (pd_neg pd_int))) (pgd_name 2 nd).pg)
    (psds_one (psd_ret (pd_tup (pds_cons (pd_bin g_div (pd_var 0) (pd_var 2)) (pds_cons (pd_bin g_div (pd_var 1) (pd_var 2)) pds_nil))))))
theorem sc_plus : FnScope ["one", "other"] ["one", "other"] (defScope st_plus) := ⟨rfl, rfl, rfl, by decide +kernel, rfl, by decide +kernel, by decide +kernel⟩
theorem ok_plus (T : Txt K mg) : Fn P w K mg base "plus" 2 3 m_plus := fn_mk (N := ["one", "other"]) (ps := ["one", "other"]) (r := b_plus) T.d_plus sc_plus fun f cdv A outer s H E en tk =>
  have nd := sc_plus.nd
  (psds_one (psd_ret (pd_fn (ok_fraction T) (en.room.mono (by decide)) en.gu tk (pds_cons (pd_bin g_add (pd_bin g_mul (pd_ix (pd_var 0) pd_int) (pd_ix (pd_var 1) pd_int)) (pd_bin g_mul (pd_ix (pd_var 1) pd_int) (pd_ix (pd_var 0) pd_int))) (pds_cons (pd_bin g_mul (pd_ix (pd_var 0) pd_int) (pd_ix (pd_var 1) pd_int)) pds_nil)))))
theorem sc_less : FnScope ["one", "other"] ["one", "other"] (defScope st_less) := ⟨rfl, rfl, rfl, by decide +kernel, rfl, by decide +kernel, by decide +kernel⟩
theorem ok_less (T : Txt K mg) : Fn P w K mg base "less" 2 3 m_less := fn_mk (N := ["one", "other"]) (ps := ["one", "other"]) (r := b_less) T.d_less sc_less fun f cdv A outer s H E en tk =>
  have nd := sc_less.nd
  (psds_one (psd_ret (pd_fn (ok_fraction T) (en.room.mono (by decide)) en.gu tk (pds_cons (pd_bin g_sub (pd_bin g_mul (pd_ix (pd_var 0) pd_int) (pd_ix (pd_var 1) pd_int)) (pd_bin g_mul (pd_ix (pd_var 1) pd_int) (pd_ix (pd_var 0) pd_int))) (pds_cons (pd_bin g_mul (pd_ix (pd_var 0) pd_int) (pd_ix (pd_var 1) pd_int)) pds_nil)))))
theorem sc_times : FnScope ["one", "other"] ["one", "other"] (defScope st_times) := ⟨rfl, rfl, rfl, by decide +kernel, rfl, by decide +kernel, by decide +kernel⟩
theorem ok_times (T : Txt K mg) : Fn P w K mg base "times" 2 3 m_times := fn_mk (N := ["one", "other"]) (ps := ["one", "other"]) (r := b_times) T.d_times sc_times fun f cdv A outer s H E en tk =>
  have nd := sc_times.nd
  (psds_one (psd_ret (pd_fn (ok_fraction T) (en.room.mono (by decide)) en.gu tk (pds_cons (pd_bin g_mul (pd_ix (pd_var 0) pd_int) (pd_ix (pd_var 1) pd_int)) (pds_cons (pd_bin g_mul (pd_ix (pd_var 0) pd_int) (pd_ix (pd_var 1) pd_int)) pds_nil)))))
theorem sc_over : FnScope ["one", "other"] ["one", "other"] (defScope st_over) := ⟨rfl, rfl, rfl, by decide +kernel, rfl, by decide +kernel, by decide +kernel⟩
theorem ok_over (T : Txt K mg) : Fn P w K mg base "over" 2 3 m_over := fn_mk (N := ["one", "other"]) (ps := ["one", "other"]) (r := b_over) T.d_over sc_over fun f cdv A outer s H E en tk =>
  have nd := sc_over.nd
  (psds_one (psd_ret (pd_fn (ok_fraction T) (en.room.mono (by decide)) en.gu tk (pds_cons (pd_bin g_mul (pd_ix (pd_var 0) pd_int) (pd_ix (pd_var 1) pd_int)) (pds_cons (pd_bin g_mul (pd_ix (pd_var 0) pd_int) (pd_ix (pd_var 1) pd_int)) pds_nil)))))
theorem sc__law_lowest : FnScope ["_law_found", "_law_above", "_law_below"] ["_law_found", "_law_above", "_law_below"] (defScope st__law_lowest) := ⟨rfl, rfl, rfl, by decide +kernel, rfl, by decide +kernel, by decide +kernel⟩
theorem ok__law_lowest (T : Txt K mg) : Fn P w K mg base "_law_lowest" 3 3 m__law_lowest := fn_mk (N := ["_law_found", "_law_above", "_law_below"]) (ps := ["_law_found", "_law_above", "_law_below"]) (r := b__law_lowest) T.d__law_lowest sc__law_lowest fun f cdv A outer s H E en tk =>
  have nd := sc__law_lowest.nd
  (psds_cons (psd_if (pb_w (pw_orD (pb_not (pb_tru (pd_callB (hv := bv_isinstance) b_isi T.n_isinstance (pds_cons (pd_var 0) (pds_cons (pd_ty (hv := bv_tuple) T.n_tuple) pds_nil))))) (pw_orD (pb_cmp (g_ne en.u64) (pd_callB (hv := bv_len) b_len T.n_len (pds_cons (pd_var 0) pds_nil)) pd_int (by rfl)) (pw_orD (pb_cmp g_lt (pd_ix (pd_var 0) pd_int) pd_int (by rfl)) (pw_or1D (pb_cmp g_isN (pd_fn (ok_is_fraction T) (en.room.mono (by decide)) en.gu tk (pds_cons (pd_var 0) pds_nil)) pd_bl (by rfl))))))) (psds_one (psd_ret pd_bl)) psds_nil)
    (psds_one (psd_ret (pd_and (pd_cmp (g_eq en.u64) (pd_bin g_mul (pd_ix (pd_var 0) pd_int) (pd_var 2)) (pd_bin g_mul (pd_var 1) (pd_ix (pd_var 0) pd_int)) (by rfl)) (pd_one (pd_cmp (g_eq en.u64) (pd_fn (ok_common_divisor T) (en.room.mono (by decide)) en.gu tk (pds_cons (pd_ix (pd_var 0) pd_int) (pds_cons (pd_ix (pd_var 0) pd_int) pds_nil))) pd_int (by rfl)))))))
theorem sc__law_divided : FnScope ["_law_one", "_law_other", "_law_found", "_law_first", "_law_second"] ["_law_one", "_law_other"] (defScope st__law_divided) := ⟨rfl, rfl, rfl, by decide +kernel, rfl, by decide +kernel, by decide +kernel⟩
theorem ok__law_divided (T : Txt K mg) : Fn P w K mg base "_law_divided" 2 2 m__law_divided := fn_mk (N := ["_law_one", "_law_other", "_law_found", "_law_first", "_law_second"]) (ps := ["_law_one", "_law_other"]) (r := b__law_divided) T.d__law_divided sc__law_divided fun f cdv A outer s H E en tk =>
  have nd := sc__law_divided.nd
  (psds_cons (psd_asg (pd_fn (ok_common_divisor T) (en.room.mono (by decide)) en.gu tk (pds_cons (pd_var 0) (pds_cons (pd_var 1) pds_nil))) (pgd_name 2 nd).pg)
    (psds_cons (psd_if (pb_cmp (g_eq en.u64) (pd_tup (pds_cons (pd_var 0) (pds_cons (pd_var 1) pds_nil))) (pd_tup (pds_cons pd_int (pds_cons pd_int pds_nil))) (by rfl)) (psds_one (psd_ret (pd_cmp (g_eq en.u64) (pd_var 2) pd_int (by rfl)))) psds_nil)
    (psds_cons (psd_if (pb_w (pw_orD (pb_cmp g_lt (pd_var 2) pd_int (by rfl)) (pw_orD (pb_cmp (g_ne en.u64) (pd_bin g_mod (pd_var 0) (pd_var 2)) pd_int (by rfl)) (pw_or1D (pb_cmp (g_ne en.u64) (pd_bin g_mod (pd_var 1) (pd_var 2)) pd_int (by rfl)))))) (psds_one (psd_ret pd_bl)) psds_nil)
    (psds_cons (psd_par rfl nd (pds_cons (pd_callB (hv := bv_abs) b_abs T.n_abs (pds_cons (pd_bin g_div (pd_var 0) (pd_var 2)) pds_nil)) (pds_cons (pd_callB (hv := bv_abs) b_abs T.n_abs (pds_cons (pd_bin g_div (pd_var 1) (pd_var 2)) pds_nil)) pds_nil)))
    (psds_cons (psd_while fuel__law_divided_0 en.hp (pb_cmp g_gt (pd_var 4) pd_int (by rfl)) (psds_one (psd_par rfl nd (pds_cons (pd_var 4) (pds_cons (pd_bin g_mod (pd_var 3) (pd_var 4)) pds_nil)))))
    (psds_one (psd_ret (pd_cmp (g_eq en.u64) (pd_var 3) pd_int (by rfl)))))))))
theorem sc__law_fractions_right : FnScope ["_law_state", "_law_great", "_law_a", "_law_b", "_law_c", "_law_d", "_law_one", "_law_other", "_law_k"] ["_law_state"] (defScope st__law_fractions_right) := ⟨rfl, rfl, rfl, by decide +kernel, rfl, by decide +kernel, by decide +kernel⟩
theorem ok__law_fractions_right (T : Txt K mg) : Fn P w K mg base "_law_fractions_right" 1 4 m__law_fractions_right := fn_mk (N := ["_law_state", "_law_great", "_law_a", "_law_b", "_law_c", "_law_d", "_law_one", "_law_other", "_law_k"]) (ps := ["_law_state"]) (r := b__law_fractions_right) T.d__law_fractions_right sc__law_fractions_right fun f cdv A outer s H E en tk =>
  have nd := sc__law_fractions_right.nd
  (psds_cons (psd_asg (pd_ix (pd_keep (pf_lst (pds_cons pd_int (pds_cons pd_int (pds_cons (pd_bin g_pow pd_int pd_int) pds_nil))))) (pd_fn (ok__law_digit T) (en.room.mono (by decide)) en.gu tk (pds_cons (pd_var 0) (pds_cons pd_int pds_nil)))) (pgd_name 1 nd).pg)
    (psds_cons (psd_asg (pd_keep (pf_lc rfl nd (pid_range1 T.n_range (pds_cons pd_int pds_nil)) (own := [("_law_k", 8)]) (blkOk_by (by kernel_rfl)) (plc_no (fun _ _ _ _ _ => (pgx_name 8 nd)) (fun _ _ _ _ _ => (pd_bin g_sub (pd_fn (ok__law_digit T) (en.room.mono (by decide)) en.gu takes0 (pds_cons (pd_var 0) (pds_cons (pd_bin g_add (pd_bin g_mul pd_int (pd_var 1)) pd_int) pds_nil))) (pd_var 1)))))) (pgn_unl rfl (pgds_cons (pgd_name 2 nd) (pgds_cons (pgd_name 3 nd) pgds_nil))).pg)
    (psds_cons (psd_asg (pd_keep (pf_lc rfl nd (pid_range1 T.n_range (pds_cons pd_int pds_nil)) (own := [("_law_k", 8)]) (blkOk_by (by kernel_rfl)) (plc_no (fun _ _ _ _ _ => (pgx_name 8 nd)) (fun _ _ _ _ _ => (pd_bin g_add pd_int (pd_fn (ok__law_digit T) (en.room.mono (by decide)) en.gu takes0 (pds_cons (pd_var 0) (pds_cons (pd_var 1) pds_nil)))))))) (pgn_unl rfl (pgds_cons (pgd_name 4 nd) (pgds_cons (pgd_name 5 nd) pgds_nil))).pg)
    (psds_cons (psd_if (pb_w (pw_orD (pb_not (pb_tru (pd_fn (ok__law_divided T) (en.room.mono (by decide)) en.gu tk (pds_cons (pd_var 2) (pds_cons (pd_var 4) pds_nil))))) (pw_orD (pb_not (pb_tru (pd_fn (ok__law_divided T) (en.room.mono (by decide)) en.gu tk (pds_cons (pd_bin g_mul (pd_var 2) (pd_var 3)) (pds_cons (pd_bin g_mul (pd_var 3) (pd_var 4)) pds_nil))))) (pw_or1D (pb_not (pb_tru (pd_fn (ok__law_lowest T) (en.room.mono (by decide)) en.gu tk (pds_cons (pd_fn (ok_fraction T) (en.room.mono (by decide)) en.gu tk (pds_cons (pd_var 2) (pds_cons (pd_bin g_sub pd_int (pd_var 4)) pds_nil))) (pds_cons (pd_bin g_sub pd_int (pd_var 2)) (pds_cons (pd_var 4) pds_nil)))))))))) (psds_one (psd_ret pd_bl)) psds_nil)
    (psds_cons (psd_par rfl nd (pds_cons (pd_fn (ok_fraction T) (en.room.mono (by decide)) en.gu tk (pds_cons (pd_var 2) (pds_cons (pd_var 4) pds_nil))) (pds_cons (pd_fn (ok_fraction T) (en.room.mono (by decide)) en.gu tk (pds_cons (pd_var 3) (pds_cons (pd_var 5) pds_nil))) pds_nil)))
    (psds_cons (psd_if (pb_w (pw_orD (pb_not (pb_tru (pd_fn (ok__law_lowest T) (en.room.mono (by decide)) en.gu tk (pds_cons (pd_var 6) (pds_cons (pd_var 2) (pds_cons (pd_var 4) pds_nil)))))) (pw_or1D (pb_not (pb_tru (pd_fn (ok__law_lowest T) (en.room.mono (by decide)) en.gu tk (pds_cons (pd_fn (ok_plus T) (en.room.mono (by decide)) en.gu tk (pds_cons (pd_var 6) (pds_cons (pd_var 7) pds_nil))) (pds_cons (pd_bin g_add (pd_bin g_mul (pd_var 2) (pd_var 5)) (pd_bin g_mul (pd_var 3) (pd_var 4))) (pds_cons (pd_bin g_mul (pd_var 4) (pd_var 5)) pds_nil))))))))) (psds_one (psd_ret pd_bl)) psds_nil)
    (psds_cons (psd_if (pb_w (pw_orD (pb_not (pb_tru (pd_fn (ok__law_lowest T) (en.room.mono (by decide)) en.gu tk (pds_cons (pd_fn (ok_less T) (en.room.mono (by decide)) en.gu tk (pds_cons (pd_var 6) (pds_cons (pd_var 7) pds_nil))) (pds_cons (pd_bin g_sub (pd_bin g_mul (pd_var 2) (pd_var 5)) (pd_bin g_mul (pd_var 3) (pd_var 4))) (pds_cons (pd_bin g_mul (pd_var 4) (pd_var 5)) pds_nil)))))) (pw_or1D (pb_not (pb_tru (pd_fn (ok__law_lowest T) (en.room.mono (by decide)) en.gu tk (pds_cons (pd_fn (ok_times T) (en.room.mono (by decide)) en.gu tk (pds_cons (pd_var 6) (pds_cons (pd_var 7) pds_nil))) (pds_cons (pd_bin g_mul (pd_var 2) (pd_var 3)) (pds_cons (pd_bin g_mul (pd_var 4) (pd_var 5)) pds_nil))))))))) (psds_one (psd_ret pd_bl)) psds_nil)
    (psds_one (psd_ret (pd_or (pd_cmp (g_eq en.u64) (pd_var 3) pd_int (by rfl)) (pd_one (pd_fn (ok__law_lowest T) (en.room.mono (by decide)) en.gu tk (pds_cons (pd_fn (ok_over T) (en.room.mono (by decide)) en.gu tk (pds_cons (pd_var 6) (pds_cons (pd_var 7) pds_nil))) (pds_cons (pd_bin g_mul (pd_var 2) (pd_var 5)) (pds_cons (pd_bin g_mul (pd_var 3) (pd_var 4)) pds_nil)))))))))))))))
theorem sc__law_row : FnScope ["_law_many", "_law_row_here", "_law_k", "_law_j"] ["_law_many"] (defScope st__law_row) := ⟨rfl, rfl, rfl, by decide +kernel, rfl, by decide +kernel, by decide +kernel⟩
theorem ok__law_row (T : Txt K mg) : Fn P w K mg base "_law_row" 1 1 m__law_row := fn_mk (N := ["_law_many", "_law_row_here", "_law_k", "_law_j"]) (ps := ["_law_many"]) (r := b__law_row) T.d__law_row sc__law_row fun f cdv A outer s H E en tk =>
  have nd := sc__law_row.nd
  (psds_cons (psd_asg (pd_keep (pf_lst (pds_cons pd_int pds_nil))) (pgd_name 1 nd).pg)
    (psds_cons (psd_for en.hp rfl (pid_range1 T.n_range (pds_cons (pd_var 0) pds_nil)) (pgd_name 2 nd).pg (psds_one (psd_asg (pd_keep (pf_cat (pd_keep (pf_cat (pd_keep (pf_lst (pds_cons pd_int pds_nil))) (pd_keep (pf_lc rfl nd (pid_range1 T.n_range (pds_cons (pd_var 2) pds_nil)) (own := [("_law_j", 3)]) (blkOk_by (by kernel_rfl)) (plc_no (fun _ _ _ _ _ => (pgx_name 3 nd)) (fun _ _ _ _ _ => (pd_bin g_add (pd_ix (pd_var 1) (pd_var 3)) (pd_ix (pd_var 1) (pd_bin g_add (pd_var 3) pd_int))))))))) (pd_keep (pf_lst (pds_cons pd_int pds_nil))))) (pgd_name 1 nd).pg)))
    (psds_one (psd_ret (pd_var 1)))))
theorem sc_law : FnScope ["_law_script", "_law_k", "_law_cell", "_law_state", "_law_signs", "_law_word", "_law_great", "_law_one", "_law_many", "_law_odd", "_law_due", "_law_j"] ["_law_script"] (defScope st_law) := ⟨rfl, rfl, rfl, by decide +kernel, rfl, by decide +kernel, by decide +kernel⟩
theorem ok_law (T : Txt K mg) : Fn P w K mg base "law" 1 5 m_law := fn_mk (N := ["_law_script", "_law_k", "_law_cell", "_law_state", "_law_signs", "_law_word", "_law_great", "_law_one", "_law_many", "_law_odd", "_law_due", "_law_j"]) (ps := ["_law_script"]) (r := b_law) T.d_law sc_law fun f cdv A outer s H E en tk =>
  have nd := sc_law.nd
  (psds_cons (psd_for en.hp rfl (pid_enum T.n_enumerate (pds_cons (pd_keep (pf_cat (pd_cut (pd_var 0) pod_none (pod_some pd_int)) (pd_keep (pf_lst (pds_cons (pd_callB (hv := bv_sum) (b_sum rfl) T.n_sum (pds_cons (pd_var 0) pds_nil)) pds_nil))))) pds_nil)) (pgn_tup rfl (pgds_cons (pgd_name 1 nd) (pgds_cons (pgd_name 2 nd) pgds_nil))).pg (psds_cons (psd_asg (pd_fn (ok__law_draw T) (en.room.mono (by decide)) en.gu tk (pds_cons (pd_var 2) (pds_cons (pd_var 1) pds_nil))) (pgd_name 3 nd).pg)
    (psds_cons (psd_asg (pd_ix (pd_keep (pf_lst (pds_cons pd_str (pds_cons pd_str (pds_cons pd_str (pds_cons pd_str pds_nil)))))) (pd_fn (ok__law_digit T) (en.room.mono (by decide)) en.gu tk (pds_cons (pd_var 3) (pds_cons pd_int pds_nil)))) (pgd_name 4 nd).pg)
    (psds_cons (psd_asg (pd_meth m_join PySem.F.plainAttrs_str PySem.F.slot_str_join PySem.F.type_str_join pd_str (pds_cons (pd_keep (pf_lc rfl nd (pid_range1 T.n_range (pds_cons (pd_fn (ok__law_digit T) (en.room.mono (by decide)) en.gu tk (pds_cons (pd_var 3) (pds_cons pd_int pds_nil))) pds_nil)) (own := [("_law_j", 11)]) (blkOk_by (by kernel_rfl)) (plc_no (fun _ _ _ _ _ => (pgx_name 11 nd)) (fun _ _ _ _ _ => (pd_ix (pd_var 4) (pd_fn (ok__law_digit T) (en.room.mono (by decide)) en.gu takes0 (pds_cons (pd_var 3) (pds_cons (pd_callB (hv := bv_len) b_len T.n_len (pds_cons (pd_var 4) pds_nil)) pds_nil)))))))) pds_nil)) (pgd_name 5 nd).pg)
    (psds_cons (psd_asg (pd_callT (hv := bv_str) b_str T.n_str (pds_cons (pd_bin g_mod (pd_callB (hv := bv_abs) b_abs T.n_abs (pds_cons (pd_var 2) pds_nil)) (pd_bin g_pow pd_int pd_int)) pds_nil)) (pgd_name 6 nd).pg)
    (psds_cons (psd_for en.hp rfl (pid_seq (pd_keep (pf_lst (pds_cons (pd_var 5) (pds_cons (pd_bin g_add pd_str (pd_var 5)) (pds_cons (pd_var 6) (pds_cons (pd_bin g_add pd_str (pd_var 6)) (pds_cons (pd_bin g_add pd_str (pd_bin g_mulS pd_str pd_int)) (pds_cons (pd_bin g_add pd_str (pd_bin g_mulS pd_str pd_int)) pds_nil))))))))) (pgd_name 7 nd).pg (psds_one (psd_if (pb_not (pb_tru (pd_fn (ok__law_word_right T) (en.room.mono (by decide)) en.gu tk (pds_cons (pd_var 7) pds_nil)))) (psds_one (psd_ret pd_bl)) psds_nil)))
    (psds_cons (psd_for en.hp rfl (pid_seq (pd_keep (pf_lst (pds_cons (pd_bin g_add pd_str (pd_var 6)) (pds_cons (pd_bin g_mulS pd_str pd_int) (pds_cons (pd_bin g_mulS pd_str pd_int) pds_nil)))))) (pgd_name 7 nd).pg (psds_one (psd_if (pb_not (pb_tru (pd_fn (ok__law_word_right T) (en.room.mono (by decide)) en.gu tk (pds_cons (pd_var 7) pds_nil)))) (psds_one (psd_ret pd_bl)) psds_nil)))
    (psds_cons (psd_if (pb_not (pb_tru (pd_fn (ok__law_fractions_right T) (en.room.mono (by decide)) en.gu tk (pds_cons (pd_var 3) pds_nil)))) (psds_one (psd_ret pd_bl)) psds_nil)
    (psds_cons (psd_asg (pd_fn (ok__law_digit T) (en.room.mono (by decide)) en.gu tk (pds_cons (pd_var 3) (pds_cons pd_int pds_nil))) (pgd_name 8 nd).pg)
    (psds_cons (psd_if (pb_cmp (g_ne en.u64) (pd_keep (pf_lc rfl nd (pid_range1 T.n_range (pds_cons (pd_bin g_add (pd_var 8) pd_int) pds_nil)) (own := [("_law_j", 11)]) (blkOk_by (by kernel_rfl)) (plc_no (fun _ _ _ _ _ => (pgx_name 11 nd)) (fun _ _ _ _ _ => (pd_fn (ok_choose T) (en.room.mono (by decide)) en.gu takes0 (pds_cons (pd_var 8) (pds_cons (pd_var 11) pds_nil))))))) (pd_keep (pf_cat (pd_fn (ok__law_row T) (en.room.mono (by decide)) en.gu tk (pds_cons (pd_var 8) pds_nil)) (pd_keep (pf_lst (pds_cons pd_int (pds_cons pd_int pds_nil)))))) (by rfl)) (psds_one (psd_ret pd_bl)) psds_nil)
    (psds_cons (psd_asg (pd_ix (pd_keep (pf_lst (pds_cons pd_non (pds_cons pd_bl (pds_cons pd_int (pds_cons (pd_keep (pf_lst pds_nil)) (pds_cons (pd_keep (pf_lst (pds_cons pd_str pds_nil))) (pds_cons (pd_own pf_dnew) (pds_cons (pd_tup (pds_cons pd_str pds_nil)) (pds_cons (pd_neg pd_int) pds_nil)))))))))) (pd_fn (ok__law_digit T) (en.room.mono (by decide)) en.gu tk (pds_cons (pd_var 3) (pds_cons pd_int pds_nil)))) (pgd_name 9 nd).pg)
    (psds_cons (psd_if (pb_w (pw_orD (pb_cmp g_isN (pd_fn (ok_number_of T) (en.room.mono (by decide)) en.gu tk (pds_cons (pd_var 9) pds_nil)) pd_non (by rfl)) (pw_orD (pb_cmp g_isN (pd_fn (ok_words_of T) (en.room.mono (by decide)) en.gu tk (pds_cons (pd_var 9) pds_nil)) pd_non (by rfl)) (pw_or1D (pb_cmp g_isN (pd_fn (ok_is_name T) (en.room.mono (by decide)) en.gu tk (pds_cons (pd_var 9) pds_nil)) pd_bl (by rfl)))))) (psds_one (psd_ret pd_bl)) psds_nil)
    (psds_cons (psd_asg (pd_cmp g_inQ (pd_callB (hv := bv_repr) (b_repr en.gu en.u80) T.n_repr (pds_cons (pd_var 9) pds_nil)) (pd_tup (pds_cons pd_str (pds_cons pd_str pds_nil))) (by rfl)) (pgd_name 10 nd).pg)
    (psds_cons (psd_if (pb_cmp (g_ne en.u64) (pd_callB (hv := bv_repr) (b_repr en.gu en.u80) T.n_repr (pds_cons (pd_keep (pf_lst (pds_cons (pd_fn (ok_is_whole T) (en.room.mono (by decide)) en.gu tk (pds_cons (pd_var 9) pds_nil)) (pds_cons (pd_fn (ok_is_among T) (en.room.mono (by decide)) en.gu tk (pds_cons (pd_var 9) (pds_cons (pd_neg pd_int) (pds_cons pd_int pds_nil)))) (pds_cons (pd_fn (ok_is_among T) (en.room.mono (by decide)) en.gu tk (pds_cons (pd_var 9) (pds_cons (pd_neg pd_int) (pds_cons pd_int pds_nil)))) pds_nil))))) pds_nil)) (pd_callB (hv := bv_repr) (b_repr en.gu en.u80) T.n_repr (pds_cons (pd_keep (pf_lst (pds_cons (pd_var 10) (pds_cons (pd_var 10) (pds_cons pd_bl pds_nil))))) pds_nil)) (by rfl)) (psds_one (psd_ret pd_bl)) psds_nil)
    (psds_cons (psd_asg (pd_ix (pd_keep (pf_lst (pds_cons (pd_tup (pds_cons pd_int (pds_cons pd_int pds_nil))) (pds_cons (pd_tup (pds_cons pd_int (pds_cons pd_int pds_nil))) (pds_cons (pd_tup (pds_cons pd_int (pds_cons (pd_neg pd_int) pds_nil))) (pds_cons (pd_tup (pds_cons pd_bl (pds_cons pd_int pds_nil))) (pds_cons (pd_keep (pf_lst (pds_cons pd_int (pds_cons pd_int pds_nil)))) (pds_cons (pd_tup (pds_cons pd_int (pds_cons pd_int (pds_cons pd_int pds_nil)))) (pds_cons (pd_tup (pds_cons pd_int (pds_cons pd_int pds_nil))) (pds_cons pd_non (pds_cons pd_str (pds_cons (pd_tup (pds_cons pd_int pds_nil)) pds_nil)))))))))))) (pd_fn (ok__law_digit T) (en.room.mono (by decide)) en.gu tk (pds_cons (pd_var 3) (pds_cons pd_int pds_nil)))) (pgd_name 9 nd).pg)
    (psds_one (psd_if (pb_w (pw_orD (pb_cmp g_isN (pd_fn (ok_is_fraction T) (en.room.mono (by decide)) en.gu tk (pds_cons (pd_var 9) pds_nil)) pd_bl (by rfl)) (pw_or1D (pb_cmp g_isN (pd_fn (ok_is_fraction T) (en.room.mono (by decide)) en.gu tk (pds_cons (pd_tup (pds_cons pd_int (pds_cons pd_int pds_nil))) pds_nil)) pd_bl (by rfl))))) (psds_one (psd_ret pd_bl)) psds_nil)))))))))))))))))
    (psds_one (psd_ret (pd_and (pd_cmp (g_eq en.u64) (pd_fn (ok_choose T) (en.room.mono (by decide)) en.gu tk (pds_cons pd_int (pds_cons pd_int pds_nil))) (pd_ix (pd_fn (ok__law_row T) (en.room.mono (by decide)) en.gu tk (pds_cons pd_int pds_nil)) pd_int) (by rfl)) (pd_one (pd_cmp (g_eq en.u64) (pd_fn (ok_common_divisor T) (en.room.mono (by decide)) en.gu tk (pds_cons pd_int (pds_cons pd_int pds_nil))) pd_int (by rfl)))))))
end
/-! the head -/
def dd_is_whole : He.DefD := ⟨("is_whole", none), "is_whole", "is_whole", defArgs st_is_whole, defBody st_is_whole, defScope st_is_whole, [], []⟩
def dd_is_among : He.DefD := ⟨("is_among", none), "is_among", "is_among", defArgs st_is_among, defBody st_is_among, defScope st_is_among, [], []⟩
def dd_is_name : He.DefD := ⟨("is_name", none), "is_name", "is_name", defArgs st_is_name, defBody st_is_name, defScope st_is_name, [], []⟩
def dd_number_of : He.DefD := ⟨("number_of", none), "number_of", "number_of", defArgs st_number_of, defBody st_number_of, defScope st_number_of, [], []⟩
def dd_words_of : He.DefD := ⟨("words_of", none), "words_of", "words_of", defArgs st_words_of, defBody st_words_of, defScope st_words_of, [], []⟩
def dd_common_divisor : He.DefD := ⟨("common_divisor", none), "common_divisor", "common_divisor", defArgs st_common_divisor, defBody st_common_divisor, defScope st_common_divisor, [], []⟩
def dd_is_fraction : He.DefD := ⟨("is_fraction", none), "is_fraction", "is_fraction", defArgs st_is_fraction, defBody st_is_fraction, defScope st_is_fraction, [], []⟩
def dd_choose : He.DefD := ⟨("choose", none), "choose", "choose", defArgs st_choose, defBody st_choose, defScope st_choose, [], []⟩
def dd__law_mixed : He.DefD := ⟨("_law_mixed", none), "_law_mixed", "_law_mixed", defArgs st__law_mixed, defBody st__law_mixed, defScope st__law_mixed, [], []⟩
def dd__law_draw : He.DefD := ⟨("_law_draw", none), "_law_draw", "_law_draw", defArgs st__law_draw, defBody st__law_draw, defScope st__law_draw, [], []⟩
def dd__law_digit : He.DefD := ⟨("_law_digit", none), "_law_digit", "_law_digit", defArgs st__law_digit, defBody st__law_digit, defScope st__law_digit, [], []⟩
def dd__law_figures : He.DefD := ⟨("_law_figures", none), "_law_figures", "_law_figures", defArgs st__law_figures, defBody st__law_figures, defScope st__law_figures, [], []⟩
def dd__law_word_right : He.DefD := ⟨("_law_word_right", none), "_law_word_right", "_law_word_right", defArgs st__law_word_right, defBody st__law_word_right, defScope st__law_word_right, [], []⟩
def dd_fraction : He.DefD := ⟨("fraction", none), "fraction", "fraction", defArgs st_fraction, defBody st_fraction, defScope st_fraction, [], []⟩
def dd_plus : He.DefD := ⟨("plus", none), "plus", "plus", defArgs st_plus, defBody st_plus, defScope st_plus, [], []⟩
def dd_less : He.DefD := ⟨("less", none), "less", "less", defArgs st_less, defBody st_less, defScope st_less, [], []⟩
def dd_times : He.DefD := ⟨("times", none), "times", "times", defArgs st_times, defBody st_times, defScope st_times, [], []⟩
def dd_over : He.DefD := ⟨("over", none), "over", "over", defArgs st_over, defBody st_over, defScope st_over, [], []⟩
def dd__law_lowest : He.DefD := ⟨("_law_lowest", none), "_law_lowest", "_law_lowest", defArgs st__law_lowest, defBody st__law_lowest, defScope st__law_lowest, [], []⟩
def dd__law_divided : He.DefD := ⟨("_law_divided", none), "_law_divided", "_law_divided", defArgs st__law_divided, defBody st__law_divided, defScope st__law_divided, [], []⟩
def dd__law_fractions_right : He.DefD := ⟨("_law_fractions_right", none), "_law_fractions_right", "_law_fractions_right", defArgs st__law_fractions_right, defBody st__law_fractions_right, defScope st__law_fractions_right, [], []⟩
def dd__law_row : He.DefD := ⟨("_law_row", none), "_law_row", "_law_row", defArgs st__law_row, defBody st__law_row, defScope st__law_row, [], []⟩
def dd_law : He.DefD := ⟨("law", none), "law", "law", defArgs st_law, defBody st_law, defScope st_law, [], []⟩
def fn : List He.DefD := [dd_is_whole, dd_is_among, dd_is_name, dd_number_of, dd_words_of, dd_common_divisor, dd_is_fraction, dd_choose, dd__law_mixed, dd__law_draw, dd__law_digit, dd__law_figures, dd__law_word_right, dd_fraction, dd_plus, dd_less, dd_times, dd_over, dd__law_lowest, dd__law_divided, dd__law_fractions_right, dd__law_row, dd_law]
def fa : List He.Fa := [.glo "is_whole", .glo "is_among", .glo "is_name", .glo "number_of", .glo "words_of", .glo "common_divisor", .glo "is_fraction", .glo "choose", .glo "_law_mixed", .glo "_law_draw", .glo "_law_digit", .glo "_law_figures", .glo "_law_word_right", .glo "fraction", .glo "plus", .glo "less", .glo "times", .glo "over", .glo "_law_lowest", .glo "_law_divided", .glo "_law_fractions_right", .glo "_law_row", .glo "law", .free "abs", .free "all", .free "bool", .free "enumerate", .free "int", .free "isinstance", .free "len", .free "list", .free "range", .free "repr", .free "str", .free "sum", .free "tuple", .str "FIGURES" "0123456789", .str "LETTERS" "abcdefghijklmnopqrstuvwxyz", .int "MOST_FIGURES" 40, .int "MOST_LETTERS" 8]
theorem txt {K : Fg} {h : Heap} {mg : Str → Option Value} (X : K.In h) (G : h.Ns mainGlobals mg) (c : He.SaysD fa fn K) : Txt K mg where
  d_is_whole := (c.def_ 0 (d := dd_is_whole) rfl).elim fun fd F => ⟨_, fd, fun_of F, He.glo_ok X G (c.fact 0 (f := .glo "is_whole") rfl), F.bindsN fun _ _ _ _ _ _ us hl => match us, hl with | [_], _ => rfl⟩
  d_is_among := (c.def_ 1 (d := dd_is_among) rfl).elim fun fd F => ⟨_, fd, fun_of F, He.glo_ok X G (c.fact 1 (f := .glo "is_among") rfl), F.bindsN fun _ _ _ _ _ _ us hl => match us, hl with | [_, _, _], _ => rfl⟩
  d_is_name := (c.def_ 2 (d := dd_is_name) rfl).elim fun fd F => ⟨_, fd, fun_of F, He.glo_ok X G (c.fact 2 (f := .glo "is_name") rfl), F.bindsN fun _ _ _ _ _ _ us hl => match us, hl with | [_], _ => rfl⟩
  d_number_of := (c.def_ 3 (d := dd_number_of) rfl).elim fun fd F => ⟨_, fd, fun_of F, He.glo_ok X G (c.fact 3 (f := .glo "number_of") rfl), F.bindsN fun _ _ _ _ _ _ us hl => match us, hl with | [_], _ => rfl⟩
  d_words_of := (c.def_ 4 (d := dd_words_of) rfl).elim fun fd F => ⟨_, fd, fun_of F, He.glo_ok X G (c.fact 4 (f := .glo "words_of") rfl), F.bindsN fun _ _ _ _ _ _ us hl => match us, hl with | [_], _ => rfl⟩
  d_common_divisor := (c.def_ 5 (d := dd_common_divisor) rfl).elim fun fd F => ⟨_, fd, fun_of F, He.glo_ok X G (c.fact 5 (f := .glo "common_divisor") rfl), F.bindsN fun _ _ _ _ _ _ us hl => match us, hl with | [_, _], _ => rfl⟩
  d_is_fraction := (c.def_ 6 (d := dd_is_fraction) rfl).elim fun fd F => ⟨_, fd, fun_of F, He.glo_ok X G (c.fact 6 (f := .glo "is_fraction") rfl), F.bindsN fun _ _ _ _ _ _ us hl => match us, hl with | [_], _ => rfl⟩
  d_choose := (c.def_ 7 (d := dd_choose) rfl).elim fun fd F => ⟨_, fd, fun_of F, He.glo_ok X G (c.fact 7 (f := .glo "choose") rfl), F.bindsN fun _ _ _ _ _ _ us hl => match us, hl with | [_, _], _ => rfl⟩
  d__law_mixed := (c.def_ 8 (d := dd__law_mixed) rfl).elim fun fd F => ⟨_, fd, fun_of F, He.glo_ok X G (c.fact 8 (f := .glo "_law_mixed") rfl), F.bindsN fun _ _ _ _ _ _ us hl => match us, hl with | [_, _], _ => rfl⟩
  d__law_draw := (c.def_ 9 (d := dd__law_draw) rfl).elim fun fd F => ⟨_, fd, fun_of F, He.glo_ok X G (c.fact 9 (f := .glo "_law_draw") rfl), F.bindsN fun _ _ _ _ _ _ us hl => match us, hl with | [_, _], _ => rfl⟩
  d__law_digit := (c.def_ 10 (d := dd__law_digit) rfl).elim fun fd F => ⟨_, fd, fun_of F, He.glo_ok X G (c.fact 10 (f := .glo "_law_digit") rfl), F.bindsN fun _ _ _ _ _ _ us hl => match us, hl with | [_, _], _ => rfl⟩
  d__law_figures := (c.def_ 11 (d := dd__law_figures) rfl).elim fun fd F => ⟨_, fd, fun_of F, He.glo_ok X G (c.fact 11 (f := .glo "_law_figures") rfl), F.bindsN fun _ _ _ _ _ _ us hl => match us, hl with | [_], _ => rfl⟩
  d__law_word_right := (c.def_ 12 (d := dd__law_word_right) rfl).elim fun fd F => ⟨_, fd, fun_of F, He.glo_ok X G (c.fact 12 (f := .glo "_law_word_right") rfl), F.bindsN fun _ _ _ _ _ _ us hl => match us, hl with | [_], _ => rfl⟩
  d_fraction := (c.def_ 13 (d := dd_fraction) rfl).elim fun fd F => ⟨_, fd, fun_of F, He.glo_ok X G (c.fact 13 (f := .glo "fraction") rfl), F.bindsN fun _ _ _ _ _ _ us hl => match us, hl with | [_, _], _ => rfl⟩
  d_plus := (c.def_ 14 (d := dd_plus) rfl).elim fun fd F => ⟨_, fd, fun_of F, He.glo_ok X G (c.fact 14 (f := .glo "plus") rfl), F.bindsN fun _ _ _ _ _ _ us hl => match us, hl with | [_, _], _ => rfl⟩
  d_less := (c.def_ 15 (d := dd_less) rfl).elim fun fd F => ⟨_, fd, fun_of F, He.glo_ok X G (c.fact 15 (f := .glo "less") rfl), F.bindsN fun _ _ _ _ _ _ us hl => match us, hl with | [_, _], _ => rfl⟩
  d_times := (c.def_ 16 (d := dd_times) rfl).elim fun fd F => ⟨_, fd, fun_of F, He.glo_ok X G (c.fact 16 (f := .glo "times") rfl), F.bindsN fun _ _ _ _ _ _ us hl => match us, hl with | [_, _], _ => rfl⟩
  d_over := (c.def_ 17 (d := dd_over) rfl).elim fun fd F => ⟨_, fd, fun_of F, He.glo_ok X G (c.fact 17 (f := .glo "over") rfl), F.bindsN fun _ _ _ _ _ _ us hl => match us, hl with | [_, _], _ => rfl⟩
  d__law_lowest := (c.def_ 18 (d := dd__law_lowest) rfl).elim fun fd F => ⟨_, fd, fun_of F, He.glo_ok X G (c.fact 18 (f := .glo "_law_lowest") rfl), F.bindsN fun _ _ _ _ _ _ us hl => match us, hl with | [_, _, _], _ => rfl⟩
  d__law_divided := (c.def_ 19 (d := dd__law_divided) rfl).elim fun fd F => ⟨_, fd, fun_of F, He.glo_ok X G (c.fact 19 (f := .glo "_law_divided") rfl), F.bindsN fun _ _ _ _ _ _ us hl => match us, hl with | [_, _], _ => rfl⟩
  d__law_fractions_right := (c.def_ 20 (d := dd__law_fractions_right) rfl).elim fun fd F => ⟨_, fd, fun_of F, He.glo_ok X G (c.fact 20 (f := .glo "_law_fractions_right") rfl), F.bindsN fun _ _ _ _ _ _ us hl => match us, hl with | [_], _ => rfl⟩
  d__law_row := (c.def_ 21 (d := dd__law_row) rfl).elim fun fd F => ⟨_, fd, fun_of F, He.glo_ok X G (c.fact 21 (f := .glo "_law_row") rfl), F.bindsN fun _ _ _ _ _ _ us hl => match us, hl with | [_], _ => rfl⟩
  d_law := (c.def_ 22 (d := dd_law) rfl).elim fun fd F => ⟨_, fd, fun_of F, He.glo_ok X G (c.fact 22 (f := .glo "law") rfl), F.bindsN fun _ _ _ _ _ _ us hl => match us, hl with | [_], _ => rfl⟩
  n_abs := He.free_ok X G (c.fact 23 (f := .free "abs") rfl)
  n_all := He.free_ok X G (c.fact 24 (f := .free "all") rfl)
  n_bool := He.free_ok X G (c.fact 25 (f := .free "bool") rfl)
  n_enumerate := He.free_ok X G (c.fact 26 (f := .free "enumerate") rfl)
  n_int := He.free_ok X G (c.fact 27 (f := .free "int") rfl)
  n_isinstance := He.free_ok X G (c.fact 28 (f := .free "isinstance") rfl)
  n_len := He.free_ok X G (c.fact 29 (f := .free "len") rfl)
  n_list := He.free_ok X G (c.fact 30 (f := .free "list") rfl)
  n_range := He.free_ok X G (c.fact 31 (f := .free "range") rfl)
  n_repr := He.free_ok X G (c.fact 32 (f := .free "repr") rfl)
  n_str := He.free_ok X G (c.fact 33 (f := .free "str") rfl)
  n_sum := He.free_ok X G (c.fact 34 (f := .free "sum") rfl)
  n_tuple := He.free_ok X G (c.fact 35 (f := .free "tuple") rfl)
  g_FIGURES := He.str_ok X G (c.fact 36 (f := .str "FIGURES" "0123456789") rfl)
  g_LETTERS := He.str_ok X G (c.fact 37 (f := .str "LETTERS" "abcdefghijklmnopqrstuvwxyz") rfl)
  g_MOST_FIGURES := He.int_ok X G (c.fact 38 (f := .int "MOST_FIGURES" 40) rfl)
  g_MOST_LETTERS := He.int_ok X G (c.fact 39 (f := .int "MOST_LETTERS" 8) rfl)
end DL

set_option Elab.async false
set_option linter.all false
set_option maxRecDepth 100000
set_option maxHeartbeats 4000000
set_option autoImplicit false
/-! law k01, plain part: numbers. -/
namespace DL
open PySem L2
local macro_rules | `(tactic| walk_at "1") => `(tactic| with_reducible first
  | refine s_seq ?_ | refine s_asg ?_ | refine s_ret ?_ | refine s_if ?_ | refine s_expr ?_ | refine s_next ?_ | refine s_brk ?_ | refine s_cont ?_ | refine s_for ?_ | refine s_while ?_
  | refine p_c ?_ | refine p_bin ?_ | refine p_as ?_ | refine p_cons ?_ | refine p_nil ?_ | refine p_un ?_ | refine p_call ?_ | refine p_if ?_ | refine p_own ?_
  | refine p_keep ?_ | refine p_tru ?_ | refine p_and ?_ | refine p_or ?_ | refine p_not ?_ | refine p_val ?_ | refine p_rand ?_ | refine p_ror ?_ | refine p_rnot ?_ | refine p_chain ?_
  | refine o_add ?_ | refine o_sub ?_ | refine o_lt ?_ | refine o_le ?_ | refine o_gt ?_ | refine o_ge ?_ | refine o_neg ?_ | refine o_eqI ?_ | refine o_neI ?_ | refine o_abs ?_ | refine o_tru ?_ | refine p_true ?_ | refine p_false ?_
  | refine s_par ?_ | refine p_yes ?_ | refine p_lc ?_ | refine p_seq ?_ | refine s_gnil ?_ | refine s_gcons ?_)
local macro_rules | `(tactic| walk_at "2") => `(tactic| first
  | walk_at "1"
  | (with_reducible refine p_var2 ?_)
  | ((with_reducible refine s_name ?_ ?_); (· exact Nat.le_of_ble_eq_true rfl); dsimp only [List.set_cons_zero, List.set_cons_succ])
  | (with_reducible refine p_tup ?_) | ((with_reducible refine ⟨?_, ?_⟩); (· exact Nat.le_of_ble_eq_true rfl))
  | ((with_reducible refine p_ex2 (x := ?_) (y := ?_) ?_ ?_); rotate_left; rotate_left; (· rfl); refine ⟨?_, ?_, ?_⟩; (· exact Nat.le_of_ble_eq_true rfl); (· exact Nat.le_of_ble_eq_true rfl); dsimp only [List.set_cons_zero, List.set_cons_succ])
  | ((with_reducible refine p_isT ?_ ?_); (· rfl)) | ((with_reducible refine p_isF ?_ ?_); (· rfl))
  | ((with_reducible refine p_ex (x := ?_) ?_ ?_); rotate_left; (· rfl)))
theorem gcd_spec (a b : Int) (S : Sto) (hS : Sane S) : m_common_divisor [.int a, .int b] S = .ok (.int (Int.gcd a b)) S := by
  refine m_defS hS rfl ?_
  show (b_common_divisor [some (.int a), some (.int b)] S).post _ _ _ _
  unfold b_common_divisor
  repeat walk_at "2"
  refine s_whileL (fun n δ S1 => S1 = S ∧ ∃ x y : Nat, y ≤ n ∧ Nat.gcd x y = Int.gcd a b ∧ δ = [some (.int x), some (.int y)]) ?_ b.natAbs _ _ _ ⟨rfl, a.natAbs, b.natAbs, Nat.le_refl _, rfl, rfl⟩ (by show b.natAbs < (b.natAbs : Int).natAbs + 1; omega)
  rintro n δ S1 ⟨rfl, x, y, hn, hg, rfl⟩
  repeat walk_at "2"
  constructor
  · intro h
    have h : (0 : Int) < y := of_decide_eq_true h
    have hy : 0 < y := by omega
    obtain ⟨m, rfl⟩ : ∃ m, n = m + 1 := ⟨n - 1, by omega⟩
    refine ⟨m, rfl, ?_⟩
    repeat walk_at "2"
    refine o_mod (by omega) ?_
    repeat walk_at "2"
    have e : Int.fmod x y = ((x % y : Nat) : Int) := by rw [Int.fmod_eq_emod_of_nonneg _ (by omega)]; rfl
    have l : x % y < y := Nat.mod_lt _ hy
    refine ⟨rfl, y, x % y, by omega, ?_, by rw [e]⟩
    rw [← hg, Nat.gcd_comm y, ← Nat.gcd_rec, Nat.gcd_comm]
  · intro h
    have h : ¬ (0 : Int) < y := of_decide_eq_false h
    have hy : y = 0 := by omega
    subst hy
    repeat walk_at "2"
    have e : x = Int.gcd a b := by rw [← hg, Nat.gcd_zero_right]
    rw [e]
    exact ⟨rfl, rfl⟩
/-! fractions -/
theorem low_math (a b : Int) (hb : b ≠ 0) : ∃ x y : Int, a.fdiv (Int.gcd a b * (if 0 < b then 1 else -1)) = x ∧ b.fdiv (Int.gcd a b * (if 0 < b then 1 else -1)) = y ∧ 0 < y ∧ Int.gcd x y = 1 ∧ x * b = a * y ∧ x.natAbs ≤ a.natAbs ∧ y.natAbs ≤ b.natAbs := by
  have hg : 0 < Int.gcd a b := Int.gcd_pos_of_ne_zero_right _ hb
  have hz : (Int.gcd a b : Int) ≠ 0 := by omega
  obtain ⟨a', ha⟩ : (Int.gcd a b : Int) ∣ a := Int.gcd_dvd_left ..
  obtain ⟨b', hb'⟩ : (Int.gcd a b : Int) ∣ b := Int.gcd_dvd_right ..
  have hc : Int.gcd a' b' = 1 := by
    have h := Int.gcd_mul_left (Int.gcd a b : Int) a' b'
    rw [← ha, ← hb'] at h
    have h : Int.gcd a b = Int.gcd a b * Int.gcd a' b' := h
    exact Nat.eq_of_mul_eq_mul_left hg (by omega)
  generalize hG : (Int.gcd a b : Int) = g at *
  have gp : 0 < g := by omega
  have le : ∀ u v : Int, u = g * v → v.natAbs ≤ u.natAbs := fun u v e => by
    rw [e, Int.natAbs_mul]
    exact Nat.le_mul_of_pos_left _ (by omega)
  by_cases s : 0 < b
  · rw [if_pos s, Int.mul_one]
    have b0 : 0 < b' := by
      rw [hb'] at s
      exact Int.pos_of_mul_pos_right s (by omega) |> fun h => h
    exact ⟨a', b', by rw [ha]; exact Int.mul_fdiv_cancel_left _ hz, by rw [hb']; exact Int.mul_fdiv_cancel_left _ hz, b0, hc, by rw [ha, hb']; simp only [Int.mul_comm, Int.mul_left_comm], le _ _ ha, le _ _ hb'⟩
  · rw [if_neg s]
    have b0 : b' < 0 := by
      have h1 : g * b' < 0 := by omega
      by_cases q : b' < 0
      · exact q
      · have : 0 ≤ g * b' := Int.mul_nonneg (by omega) (by omega)
        omega
    have hm : g * -1 ≠ 0 := by omega
    refine ⟨-a', -b', ?_, ?_, by omega, by rw [Int.gcd_neg, Int.neg_gcd]; exact hc, ?_, by rw [Int.natAbs_neg]; exact le _ _ ha, by rw [Int.natAbs_neg]; exact le _ _ hb'⟩
    · rw [show a = (g * -1) * -a' by rw [Int.mul_neg, Int.mul_neg g 1, Int.mul_one, Int.neg_mul, Int.neg_neg]; exact ha]; exact Int.mul_fdiv_cancel_left _ hm
    · rw [show b = (g * -1) * -b' by rw [Int.mul_neg, Int.mul_neg g 1, Int.mul_one, Int.neg_mul, Int.neg_neg]; exact hb']; exact Int.mul_fdiv_cancel_left _ hm
    · rw [ha, hb']; simp only [Int.neg_mul, Int.mul_neg, Int.mul_comm, Int.mul_left_comm]
/-- x, y: the fraction a / b in lowest terms -/
structure Low (a b x y : Int) : Prop where
  pos : 0 < y
  one : Int.gcd x y = 1
  eq : x * b = a * y
  le1 : x.natAbs ≤ a.natAbs
  le2 : y.natAbs ≤ b.natAbs
theorem fraction_spec (a b : Int) (hb : b ≠ 0) (hl : b.natAbs < 2 ^ 200) (S : Sto) (hS : Sane S) : ∃ x y, m_fraction [.int a, .int b] S = .ok (.tup [.int x, .int y]) S ∧ Low a b x y := by
  obtain ⟨x, y, e1, e2, h1, h2, h3, h4, h5⟩ := low_math a b hb
  refine ⟨x, y, m_defS hS rfl ?_, ⟨h1, h2, h3, h4, h5⟩⟩
  show (b_fraction [some (.int a), some (.int b), none] S).post _ _ _ _
  unfold b_fraction
  repeat walk_at "2"
  refine Res.post.of_eq (gcd_spec a b S hS) ?_
  have gl : Int.gcd a b ≤ b.natAbs := Nat.le_of_dvd (by omega) (Int.gcd_dvd_natAbs_right a b)
  have hg : 0 < Int.gcd a b := Int.gcd_pos_of_ne_zero_right _ hb
  have fin : ∀ s : Int, s = (if 0 < b then 1 else -1) → (Res.lift (gMul S (.int (Int.gcd a b)) (.int s)) S).post fun d S1 => (gName 2 d [some (.int a), some (.int b), none] S1).post fun δ1 S2 => ((sRet (rTup (rCons (rBin gDiv (rVar 0) (rVar 2)) (rCons (rBin gDiv (rVar 1) (rVar 2)) rNil)))) δ1 S2).post NoS (fun z S1 => z = .tup [.int x, .int y] ∧ S1 = S) NoS NoS := by
    intro s hs
    have sz : s.natAbs = 1 := by rw [hs]; split <;> rfl
    refine o_mul (fits_of (a := 200) (b := 1) (by simp; omega) (by rw [sz]; decide) (by decide)) ?_
    have nz : (Int.gcd a b : Int) * s ≠ 0 := by
      intro z
      rcases Int.mul_eq_zero.mp z with z | z
      · omega
      · rw [z] at sz; cases sz
    have nl : ((Int.gcd a b : Int) * s).natAbs.log2 < 9000 := log_of (b := 200) (by rw [Int.natAbs_mul, sz]; simp; omega) (by decide)
    repeat walk_at "2"
    refine o_div ⟨nz, nl⟩ ?_
    repeat walk_at "2"
    refine o_div ⟨nz, nl⟩ ?_
    repeat walk_at "2"
    rw [hs, e1, e2]
    exact ⟨rfl, rfl⟩
  repeat walk_at "2"
  refine ⟨fun h => ?_, fun h => ?_⟩
  · have h : 0 < b := of_decide_eq_true h
    repeat walk_at "2"
    exact fin 1 (by rw [if_pos h])
  · have h : ¬ 0 < b := of_decide_eq_false h
    repeat walk_at "2"
    exact fin (-1) (by rw [if_neg h])
theorem is_whole_int (i : Int) (S : Sto) (hS : Sane S) : m_is_whole [.int i] S = .ok (.bl true) S := by
  refine m_defS hS rfl ?_
  show (b_is_whole [some (.int i)] S).post _ _ _ _
  unfold b_is_whole
  repeat walk_at "2"
  refine p_lift (a := D.bl true) (by kernel_rfl) ?_
  repeat walk_at "2"
  refine p_lift (a := D.bl false) (by kernel_rfl) ?_
  repeat walk_at "2"
  exact ⟨rfl, rfl⟩
theorem is_fraction_low {x y : Int} (hy : 0 < y) (h : Int.gcd x y = 1) (S : Sto) (hS : Sane S) : m_is_fraction [.tup [.int x, .int y]] S = .ok (.bl true) S := by
  refine m_defS hS rfl ?_
  show (b_is_fraction [some (.tup [.int x, .int y])] S).post _ _ _ _
  unfold b_is_fraction
  repeat walk_at "2"
  refine p_lift (a := D.bl true) (by kernel_rfl) ?_
  repeat walk_at "2"
  refine p_lift (a := D.int 2) (by kernel_rfl) ?_
  repeat walk_at "2"
  refine o_ixT (d := .int x) rfl ?_
  repeat walk_at "2"
  refine Res.post.of_eq (is_whole_int x S hS) ?_
  repeat walk_at "2"
  refine o_ixT (d := .int y) rfl ?_
  repeat walk_at "2"
  refine Res.post.of_eq (is_whole_int y S hS) ?_
  repeat walk_at "2"
  refine o_ixT (d := .int y) rfl ?_
  repeat walk_at "2"
  rw [decide_eq_true hy]
  repeat walk_at "2"
  refine o_ixT (d := .int x) rfl ?_
  repeat walk_at "2"
  refine o_ixT (d := .int y) rfl ?_
  repeat walk_at "2"
  refine Res.post.of_eq (gcd_spec x y S hS) ?_
  repeat walk_at "2"
  rw [h]
  exact ⟨rfl, rfl⟩
end DL

set_option Elab.async false
set_option linter.all false
set_option maxRecDepth 100000
set_option maxHeartbeats 4000000
set_option autoImplicit false
/-! law k01, plain part: fractions put together, rows of sums. -/
namespace DL
open PySem L2
local macro_rules | `(tactic| walk_at "1") => `(tactic| with_reducible first
  | refine s_seq ?_ | refine s_asg ?_ | refine s_ret ?_ | refine s_if ?_ | refine s_expr ?_ | refine s_next ?_ | refine s_brk ?_ | refine s_cont ?_ | refine s_for ?_ | refine s_while ?_
  | refine p_c ?_ | refine p_bin ?_ | refine p_as ?_ | refine p_cons ?_ | refine p_nil ?_ | refine p_un ?_ | refine p_call ?_ | refine p_if ?_ | refine p_own ?_
  | refine p_keep ?_ | refine p_tru ?_ | refine p_and ?_ | refine p_or ?_ | refine p_not ?_ | refine p_val ?_ | refine p_rand ?_ | refine p_ror ?_ | refine p_rnot ?_ | refine p_chain ?_
  | refine o_add ?_ | refine o_sub ?_ | refine o_lt ?_ | refine o_le ?_ | refine o_gt ?_ | refine o_ge ?_ | refine o_neg ?_ | refine o_eqI ?_ | refine o_neI ?_ | refine o_abs ?_ | refine o_tru ?_ | refine p_true ?_ | refine p_false ?_
  | refine s_par ?_ | refine p_yes ?_ | refine p_lc ?_ | refine p_seq ?_ | refine s_gnil ?_ | refine s_gcons ?_)
local macro_rules | `(tactic| walk_at "2") => `(tactic| first
  | walk_at "1"
  | (with_reducible refine p_var2 ?_)
  | ((with_reducible refine s_name ?_ ?_); (· exact Nat.le_of_ble_eq_true rfl); dsimp only [List.set_cons_zero, List.set_cons_succ])
  | (with_reducible refine p_tup ?_) | ((with_reducible refine ⟨?_, ?_⟩); (· exact Nat.le_of_ble_eq_true rfl))
  | ((with_reducible refine p_ex2 (x := ?_) (y := ?_) ?_ ?_); rotate_left; rotate_left; (· rfl); refine ⟨?_, ?_, ?_⟩; (· exact Nat.le_of_ble_eq_true rfl); (· exact Nat.le_of_ble_eq_true rfl); dsimp only [List.set_cons_zero, List.set_cons_succ])
  | ((with_reducible refine p_isT ?_ ?_); (· rfl)) | ((with_reducible refine p_isF ?_ ?_); (· rfl))
  | ((with_reducible refine p_ex (x := ?_) ?_ ?_); rotate_left; (· rfl)))

theorem lt_mul {x y : Int} {a b : Nat} (h1 : x.natAbs < 2 ^ a) (h2 : y.natAbs < 2 ^ b) : (x * y).natAbs < 2 ^ (a + b) := by
  rw [Int.natAbs_mul, Nat.pow_add]
  exact Nat.mul_lt_mul'' h1 h2
theorem lt_add {x y : Int} {a : Nat} (h1 : x.natAbs < 2 ^ a) (h2 : y.natAbs < 2 ^ a) : (x + y).natAbs < 2 ^ (a + 1) := by
  rw [Nat.pow_succ]
  have := Int.natAbs_add_le x y
  omega
theorem lt_sub {x y : Int} {a : Nat} (h1 : x.natAbs < 2 ^ a) (h2 : y.natAbs < 2 ^ a) : (x - y).natAbs < 2 ^ (a + 1) := by
  rw [Int.sub_eq_add_neg]
  exact lt_add h1 (by rw [Int.natAbs_neg]; exact h2)
theorem lowest_spec {x y a b : Int} (hy : 0 < y) (h1 : Int.gcd x y = 1) (he : x * b = a * y) (f1 : mulFits x b = true) (f2 : mulFits a y = true) (S : Sto) (hS : Sane S) : m__law_lowest [.tup [.int x, .int y], .int a, .int b] S = .ok (.bl true) S := by
  refine m_defS hS rfl ?_
  show (b__law_lowest [some (.tup [.int x, .int y]), some (.int a), some (.int b)] S).post _ _ _ _
  unfold b__law_lowest
  repeat walk_at "2"
  refine p_lift (a := D.bl true) (by kernel_rfl) ?_
  repeat walk_at "2"
  refine p_lift (a := D.int 2) (by kernel_rfl) ?_
  repeat walk_at "2"
  refine o_ixT (d := .int y) rfl ?_
  repeat walk_at "2"
  rw [decide_eq_false (show ¬ y < 1 by omega)]
  repeat walk_at "2"
  refine Res.post.of_eq (is_fraction_low hy h1 S hS) ?_
  repeat walk_at "2"
  refine p_lift (a := D.bl false) (by kernel_rfl) ?_
  repeat walk_at "2"
  refine o_ixT (d := .int x) rfl ?_
  repeat walk_at "2"
  refine o_mul f1 ?_
  repeat walk_at "2"
  refine o_ixT (d := .int y) rfl ?_
  repeat walk_at "2"
  refine o_mul f2 ?_
  repeat walk_at "2"
  rw [he, beq_self_eq_true]
  repeat walk_at "2"
  refine o_ixT (d := .int x) rfl ?_
  repeat walk_at "2"
  refine o_ixT (d := .int y) rfl ?_
  repeat walk_at "2"
  refine Res.post.of_eq (gcd_spec x y S hS) ?_
  repeat walk_at "2"
  rw [h1]
  exact ⟨rfl, rfl⟩
section
variable {x y u v : Int} {S : Sto} {k : Nat}
theorem put_plus (hS : Sane S) (f1 : mulFits x v = true) (f2 : mulFits u y = true) (f3 : mulFits y v = true) {d : D} (h : m_fraction [.int (x * v + u * y), .int (y * v)] S = .ok d S) (hd : D.closed S.length d = true) : m_plus [.tup [.int x, .int y], .tup [.int u, .int v]] S = .ok d S := by
  refine m_defS hS hd ?_
  show (b_plus [some (.tup [.int x, .int y]), some (.tup [.int u, .int v])] S).post _ _ _ _
  unfold b_plus
  repeat walk_at "2"
  refine o_ixT (d := .int x) rfl ?_
  repeat walk_at "2"
  refine o_ixT (d := .int v) rfl ?_
  repeat walk_at "2"
  refine o_mul f1 ?_
  repeat walk_at "2"
  refine o_ixT (d := .int u) rfl ?_
  repeat walk_at "2"
  refine o_ixT (d := .int y) rfl ?_
  repeat walk_at "2"
  refine o_mul f2 ?_
  repeat walk_at "2"
  refine o_ixT (d := .int y) rfl ?_
  repeat walk_at "2"
  refine o_ixT (d := .int v) rfl ?_
  repeat walk_at "2"
  refine o_mul f3 ?_
  repeat walk_at "2"
  exact Res.post.of_eq h ⟨rfl, rfl⟩
theorem put_less (hS : Sane S) (f1 : mulFits x v = true) (f2 : mulFits u y = true) (f3 : mulFits y v = true) {d : D} (h : m_fraction [.int (x * v - u * y), .int (y * v)] S = .ok d S) (hd : D.closed S.length d = true) : m_less [.tup [.int x, .int y], .tup [.int u, .int v]] S = .ok d S := by
  refine m_defS hS hd ?_
  show (b_less [some (.tup [.int x, .int y]), some (.tup [.int u, .int v])] S).post _ _ _ _
  unfold b_less
  repeat walk_at "2"
  refine o_ixT (d := .int x) rfl ?_
  repeat walk_at "2"
  refine o_ixT (d := .int v) rfl ?_
  repeat walk_at "2"
  refine o_mul f1 ?_
  repeat walk_at "2"
  refine o_ixT (d := .int u) rfl ?_
  repeat walk_at "2"
  refine o_ixT (d := .int y) rfl ?_
  repeat walk_at "2"
  refine o_mul f2 ?_
  repeat walk_at "2"
  refine o_ixT (d := .int y) rfl ?_
  repeat walk_at "2"
  refine o_ixT (d := .int v) rfl ?_
  repeat walk_at "2"
  refine o_mul f3 ?_
  repeat walk_at "2"
  exact Res.post.of_eq h ⟨rfl, rfl⟩
theorem put_times (hS : Sane S) (f1 : mulFits x u = true) (f3 : mulFits y v = true) {d : D} (h : m_fraction [.int (x * u), .int (y * v)] S = .ok d S) (hd : D.closed S.length d = true) : m_times [.tup [.int x, .int y], .tup [.int u, .int v]] S = .ok d S := by
  refine m_defS hS hd ?_
  show (b_times [some (.tup [.int x, .int y]), some (.tup [.int u, .int v])] S).post _ _ _ _
  unfold b_times
  repeat walk_at "2"
  refine o_ixT (d := .int x) rfl ?_
  repeat walk_at "2"
  refine o_ixT (d := .int u) rfl ?_
  repeat walk_at "2"
  refine o_mul f1 ?_
  repeat walk_at "2"
  refine o_ixT (d := .int y) rfl ?_
  repeat walk_at "2"
  refine o_ixT (d := .int v) rfl ?_
  repeat walk_at "2"
  refine o_mul f3 ?_
  repeat walk_at "2"
  exact Res.post.of_eq h ⟨rfl, rfl⟩
theorem put_over (hS : Sane S) (f1 : mulFits x v = true) (f3 : mulFits y u = true) {d : D} (h : m_fraction [.int (x * v), .int (y * u)] S = .ok d S) (hd : D.closed S.length d = true) : m_over [.tup [.int x, .int y], .tup [.int u, .int v]] S = .ok d S := by
  refine m_defS hS hd ?_
  show (b_over [some (.tup [.int x, .int y]), some (.tup [.int u, .int v])] S).post _ _ _ _
  unfold b_over
  repeat walk_at "2"
  refine o_ixT (d := .int x) rfl ?_
  repeat walk_at "2"
  refine o_ixT (d := .int v) rfl ?_
  repeat walk_at "2"
  refine o_mul f1 ?_
  repeat walk_at "2"
  refine o_ixT (d := .int y) rfl ?_
  repeat walk_at "2"
  refine o_ixT (d := .int u) rfl ?_
  repeat walk_at "2"
  refine o_mul f3 ?_
  repeat walk_at "2"
  exact Res.post.of_eq h ⟨rfl, rfl⟩
end
theorem divided_spec (a b : Int) (hl : a.natAbs < 2 ^ 200) (hl2 : b.natAbs < 2 ^ 200) (S : Sto) (hS : Sane S) : m__law_divided [.int a, .int b] S = .ok (.bl true) S := by
  refine m_defS hS rfl ?_
  show (b__law_divided [some (.int a), some (.int b), none, none, none] S).post _ _ _ _
  unfold b__law_divided
  repeat walk_at "2"
  refine Res.post.of_eq (gcd_spec a b S hS) ?_
  repeat walk_at "2"
  refine o_eqTs (ns := [a, b]) (ms := [0, 0]) ?_
  repeat walk_at "2"
  refine ⟨fun h => ?_, fun h => ?_⟩
  · have h := of_decide_eq_true h
    simp only [List.cons.injEq, and_true] at h
    obtain ⟨rfl, rfl⟩ := h
    repeat walk_at "2"
    exact ⟨rfl, rfl⟩
  · have h := of_decide_eq_false h
    have hg : 0 < Int.gcd a b := by
      rcases Nat.eq_zero_or_pos (Int.gcd a b) with z | z
      · have := Int.gcd_eq_zero_iff.mp z
        exact absurd (by rw [this.1, this.2]) h
      · exact z
    have nz : (Int.gcd a b : Int) ≠ 0 := by omega
    have gl : Int.gcd a b < 2 ^ 201 := by
      by_cases z : a = 0
      · by_cases y : b = 0
        · exact absurd (by rw [z, y]) h
        · exact Nat.lt_of_le_of_lt (Nat.le_of_dvd (by omega) (Int.gcd_dvd_natAbs_right a b)) (by omega)
      · exact Nat.lt_of_le_of_lt (Nat.le_of_dvd (by omega) (Int.gcd_dvd_natAbs_left a b)) (by omega)
    have nl : (Int.gcd a b : Int).natAbs.log2 < 9000 := log_of (b := 201) (by simpa using gl) (by decide)
    obtain ⟨a', ha⟩ : (Int.gcd a b : Int) ∣ a := Int.gcd_dvd_left ..
    obtain ⟨b', hb⟩ : (Int.gcd a b : Int) ∣ b := Int.gcd_dvd_right ..
    have hc : Int.gcd a' b' = 1 := by
      have h := Int.gcd_mul_left (Int.gcd a b : Int) a' b'
      rw [← ha, ← hb] at h
      have h : Int.gcd a b = Int.gcd a b * Int.gcd a' b' := h
      exact Nat.eq_of_mul_eq_mul_left hg (by omega)
    have ea : a.fmod (Int.gcd a b) = 0 := Int.fmod_eq_zero_of_dvd ⟨a', ha⟩
    have eb : b.fmod (Int.gcd a b) = 0 := Int.fmod_eq_zero_of_dvd ⟨b', hb⟩
    have da : a.fdiv (Int.gcd a b) = a' := by
      have := Int.mul_fdiv_cancel_left a' nz
      rwa [← ha] at this
    have db : b.fdiv (Int.gcd a b) = b' := by
      have := Int.mul_fdiv_cancel_left b' nz
      rwa [← hb] at this
    repeat walk_at "2"
    rw [decide_eq_false (show ¬ (Int.gcd a b : Int) < 1 by omega)]
    repeat walk_at "2"
    refine o_mod nz ?_
    rw [ea]
    repeat walk_at "2"
    refine o_mod nz ?_
    rw [eb]
    repeat walk_at "2"
    refine o_div ⟨nz, nl⟩ ?_
    rw [da]
    repeat walk_at "2"
    refine o_div ⟨nz, nl⟩ ?_
    rw [db]
    repeat walk_at "2"
    generalize hw : (some (D.int (Int.gcd a b)) : Option D) = w
    refine s_whileL (fun n δ S1 => S1 = S ∧ ∃ x y : Nat, y ≤ n ∧ Nat.gcd x y = 1 ∧ δ = [some (.int a), some (.int b), w, some (.int x), some (.int y)]) ?_ b'.natAbs _ _ _ ⟨rfl, a'.natAbs, b'.natAbs, Nat.le_refl _, hc, rfl⟩ (by show b'.natAbs < (b'.natAbs : Int).natAbs + 1; omega)
    rintro n δ S1 ⟨rfl, x, y, hn, hg, rfl⟩
    repeat walk_at "2"
    constructor
    · intro h
      have h : (0 : Int) < y := of_decide_eq_true h
      have hy : 0 < y := by omega
      obtain ⟨m, rfl⟩ : ∃ m, n = m + 1 := ⟨n - 1, by omega⟩
      refine ⟨m, rfl, ?_⟩
      repeat walk_at "2"
      refine o_mod (by omega) ?_
      repeat walk_at "2"
      have e : Int.fmod x y = ((x % y : Nat) : Int) := by rw [Int.fmod_eq_emod_of_nonneg _ (by omega)]; rfl
      have l : x % y < y := Nat.mod_lt _ hy
      refine ⟨rfl, y, x % y, by omega, ?_, by rw [e]⟩
      rw [← hg, Nat.gcd_comm y, ← Nat.gcd_rec, Nat.gcd_comm]
    · intro h
      have h : ¬ (0 : Int) < y := of_decide_eq_false h
      have hy : y = 0 := by omega
      subst hy
      repeat walk_at "2"
      have e : x = 1 := by rw [← hg, Nat.gcd_zero_right]
      subst e
      exact ⟨rfl, rfl⟩
/-! rows of sums -/
def bin : Nat → Nat → Nat
  | _, 0 => 1
  | 0, _ + 1 => 0
  | n + 1, k + 1 => bin n k + bin n (k + 1)
theorem bin_gt : ∀ {n k : Nat}, n < k → bin n k = 0
  | 0, k + 1, _ => rfl
  | n + 1, k + 1, h => by
    show bin n k + bin n (k + 1) = 0
    rw [bin_gt (by omega), bin_gt (by omega)]
theorem bin_self : ∀ n : Nat, bin n n = 1
  | 0 => rfl
  | n + 1 => by
    show bin n n + bin n (n + 1) = 1
    rw [bin_self n, bin_gt (by omega)]
theorem bin_le : ∀ n k : Nat, bin n k ≤ 2 ^ n
  | n, 0 => by cases n <;> exact Nat.one_le_two_pow
  | 0, k + 1 => by show 0 ≤ _; omega
  | n + 1, k + 1 => by
    show bin n k + bin n (k + 1) ≤ 2 ^ (n + 1)
    have h1 := bin_le n k
    have h2 := bin_le n (k + 1)
    rw [Nat.pow_succ]; omega
theorem bin_step : ∀ {n k : Nat}, k ≤ n → bin n (k + 1) * (k + 1) = bin n k * (n - k)
  | 0, k, h => by
    obtain rfl : k = 0 := by omega
    rfl
  | n + 1, 0, _ => by
    show (bin n 0 + bin n 1) * 1 = bin (n + 1) 0 * (n + 1 - 0)
    have h : bin n 1 * 1 = bin n 0 * (n - 0) := bin_step (Nat.zero_le _)
    have e : bin n 0 = 1 := by cases n <;> rfl
    have e2 : bin (n + 1) 0 = 1 := rfl
    rw [e, e2]; rw [e] at h; omega
  | n + 1, k + 1, h => by
    have h1 : bin n (k + 1) * (k + 1) = bin n k * (n - k) := bin_step (by omega)
    show (bin n (k + 1) + bin n (k + 2)) * (k + 2) = (bin n k + bin n (k + 1)) * (n + 1 - (k + 1))
    rw [show n + 1 - (k + 1) = n - k by omega]
    by_cases q : k + 1 ≤ n
    · have h2 : bin n (k + 2) * (k + 2) = bin n (k + 1) * (n - (k + 1)) := bin_step q
      obtain ⟨m, rfl⟩ : ∃ m, n = k + 1 + m := ⟨n - (k + 1), by omega⟩
      rw [show k + 1 + m - (k + 1) = m by omega] at h2
      rw [show k + 1 + m - k = m + 1 by omega] at h1 ⊢
      generalize bin (k + 1 + m) (k + 1) = A at *
      generalize bin (k + 1 + m) (k + 2) = B at *
      generalize bin (k + 1 + m) k = C at *
      grind
    · obtain rfl : n = k := by omega
      rw [bin_gt (show n < n + 1 by omega), bin_gt (show n < n + 2 by omega), Nat.sub_self]
      simp
theorem choose_spec (n j : Nat) (hn : n ≤ 200) (hj : j ≤ 300) (S : Sto) (hS : Sane S) : m_choose [.int n, .int j] S = .ok (.int (bin n j)) S := by
  refine m_defS hS rfl ?_
  show (b_choose [some (.int n), some (.int j), none, none] S).post _ _ _ _
  unfold b_choose
  repeat walk_at "2"
  refine ⟨fun h => ?_, fun h => ?_⟩
  · have h : (n : Int) < j := of_decide_eq_true h
    repeat walk_at "2"
    rw [bin_gt (by omega)]
    exact ⟨rfl, rfl⟩
  · have h : ¬ (n : Int) < j := of_decide_eq_false h
    repeat walk_at "2"
    with_reducible refine p_range1 ?_
    repeat walk_at "2"
    refine ⟨by omega, by omega, ?_⟩
    refine s_forL (fun xs δ S1 => S1 = S ∧ ∃ i z, i ≤ j ∧ xs = (rangeD 0 j).drop i ∧ δ = [some (.int n), some (.int j), some (.int (bin n i)), z]) ?_ ?_ _ _ _ ⟨rfl, 0, none, Nat.zero_le _, rfl, by cases n <;> rfl⟩
    · rintro x xs δ S1 ⟨rfl, i, z, hi, e, rfl⟩
      have hx := range_cons e
      obtain ⟨rfl, hlt, rfl⟩ := hx
      repeat walk_at "2"
      have b1 := bin_le n i
      have b2 : 2 ^ n ≤ 2 ^ 200 := Nat.pow_le_pow_right (by decide) hn
      have b3 : (bin n i : Int).natAbs < 2 ^ 201 := by
        show bin n i < 2 ^ 201
        exact Nat.lt_of_le_of_lt (Nat.le_trans b1 b2) (by decide)
      have b4 : ((n : Int) - (i : Int)).natAbs < 2 ^ 9 := by omega
      refine o_mul (fits_of (a := 201) (b := 9) b3 b4 (by decide)) ?_
      repeat walk_at "2"
      have b5 : ((i : Int) + 1).natAbs < 2 ^ 9 := by omega
      refine o_div ⟨by omega, log_of (b := 9) b5 (by decide)⟩ ?_
      repeat walk_at "2"
      refine ⟨rfl, i + 1, some (.int i), by omega, rfl, ?_⟩
      have st := bin_step (n := n) (k := i) (by omega)
      have e : ((bin n i : Int) * (n - i)).fdiv (i + 1) = (bin n (i + 1) : Int) := by
        have e1 : ((bin n i : Int) * (n - i)) = ((bin n (i + 1) : Int) * (i + 1)) := by
          rw [show ((n : Int) - i) = ((n - i : Nat) : Int) by omega, show ((i : Int) + 1) = ((i + 1 : Nat) : Int) by omega, ← Int.natCast_mul, ← Int.natCast_mul, st]
        rw [e1]
        exact Int.mul_fdiv_cancel _ (by omega)
      rw [e]
    · rintro δ S1 ⟨rfl, i, z, hi, e, rfl⟩
      have : i = j := by have := range_nil e; omega
      subst this
      repeat walk_at "2"
      exact ⟨rfl, rfl⟩
def rowD (k : Nat) : List Int := (List.range (k + 1)).map fun i => ((bin k i : Nat) : Int)
theorem rowD_succ (k : Nat) : rowD (k + 1) = [1] ++ ((List.range k).map fun i => ((bin (k + 1) (i + 1) : Nat) : Int)) ++ [1] := by
  unfold rowD
  rw [List.range_succ, List.map_append, List.range_succ_eq_map, List.map_cons, List.map_map, List.map_cons, bin_self]
  rfl
theorem rowD_at {k i : Nat} (h : i ≤ k) : atI ((rowD k).map D.int) (i : Int) = some (.int (bin k i)) := by
  have l : ((rowD k).map D.int).length = k + 1 := by unfold rowD; simp
  have e : ((rowD k).map D.int)[i]? = some (.int (bin k i)) := by
    unfold rowD
    rw [List.getElem?_map, List.getElem?_map, List.getElem?_range (by omega)]
    rfl
  unfold atI ixN
  rw [if_pos (by omega), if_pos (by omega)]
  simpa using e
theorem o_cat {S : Sto} {xs ys : List D} {Q : D → Sto → Prop} (h : xs.length + ys.length ≤ sizeLine) (q : Q (.lst (xs ++ ys)) S) : (Res.lift (gCat S (.lst xs) (.lst ys)) S).post Q := p_lift (by unfold gCat deref; dsimp only; rw [if_pos h]) q
theorem row_spec (n : Nat) (hn : n ≤ 200) (S : Sto) (hS : Sane S) : m__law_row [.int n] S = .ok (.lst ((rowD n).map .int)) S := by
  refine m_defS hS (by show closedL _ _ = true; exact closed_ints) ?_
  show (b__law_row [some (.int n), none, none, none] S).post _ _ _ _
  unfold b__law_row
  repeat walk_at "2"
  with_reducible refine p_lst ?_
  repeat walk_at "2"

  with_reducible refine p_range1 ?_
  repeat walk_at "2"
  refine ⟨by omega, by omega, ?_⟩
  refine s_forL (fun xs δ S1 => S1 = S ∧ ∃ i z, i ≤ n ∧ xs = (rangeD 0 n).drop i ∧ δ = [some (.int n), some (.lst ((rowD i).map .int)), z, none]) ?_ ?_ _ _ _ ⟨rfl, 0, none, Nat.zero_le _, rfl, rfl⟩
  · rintro x xs δ S1 ⟨rfl, i, z, hi, e, rfl⟩
    have hx := range_cons e
    obtain ⟨h1, hlt, h3⟩ := hx
    subst h3
    subst h1
    repeat walk_at "2"
    with_reducible refine p_lst ?_
    repeat walk_at "2"
    with_reducible refine p_range1 ?_
    repeat walk_at "2"
    refine ⟨by omega, by omega, ?_⟩
    refine Res.post.of_eq (lcL_map (f := fun x => match x with | .int j => .int (bin (i + 1) (j.toNat + 1)) | d => d) (by exact Nat.le_of_ble_eq_true rfl) fun x hx => ?_) ?_
    · obtain ⟨j, hj, rfl⟩ : ∃ j : Nat, j < i ∧ x = .int j := by
        rw [rangeD_nat, List.mem_map] at hx
        obtain ⟨j, h1, h2⟩ := hx
        exact ⟨j, List.mem_range.mp h1, h2.symm⟩
      show _ = Res.ok (D.int (bin (i + 1) (j + 1))) S1
      refine exact_of ?_
      repeat walk_at "2"
      refine o_ixL (rowD_at (by omega)) ?_
      repeat walk_at "2"
      refine o_ixL (rowD_at (i := j + 1) (by omega)) ?_
      repeat walk_at "2"
      refine ⟨?_, rfl⟩
      show D.int ((bin i j : Int) + (bin i (j + 1) : Int)) = .int ((bin i j + bin i (j + 1) : Nat) : Int)
      rw [Int.natCast_add]
    · have em : (rangeD 0 (i : Int)).map (fun x => match x with | .int j => .int (bin (i + 1) (j.toNat + 1)) | d => d) = ((List.range i).map fun j => ((bin (i + 1) (j + 1) : Nat) : Int)).map D.int := by
        rw [rangeD_nat, List.map_map, List.map_map]
        rfl
      rw [em]
      have sl : sizeLine = 2 ^ 24 - 1 ∨ 1000 ≤ sizeLine := .inr (by decide)
      have sl : 1000 ≤ sizeLine := by decide
      refine ⟨by simp; omega, ?_⟩
      repeat walk_at "2"
      refine o_cat (by simp; omega) ?_
      repeat walk_at "2"
      with_reducible refine p_lst ?_
      repeat walk_at "2"
      refine o_cat (by simp; omega) ?_
      repeat walk_at "2"
      refine ⟨rfl, i + 1, some (.int i), by omega, rfl, ?_⟩
      rw [rowD_succ]
      simp
  · rintro δ S1 ⟨rfl, i, z, hi, e, rfl⟩
    have : i = n := by have := range_nil e; omega
    subst this
    repeat walk_at "2"
    exact ⟨rfl, rfl⟩
end DL

set_option Elab.async false
set_option linter.all false
set_option maxRecDepth 100000
set_option maxHeartbeats 4000000
set_option autoImplicit false
/-! law k01, plain part: what is drawn. -/
namespace DL
open PySem L2
local macro_rules | `(tactic| walk_at "1") => `(tactic| with_reducible first
  | refine s_seq ?_ | refine s_asg ?_ | refine s_ret ?_ | refine s_if ?_ | refine s_expr ?_ | refine s_next ?_ | refine s_brk ?_ | refine s_cont ?_ | refine s_for ?_ | refine s_while ?_
  | refine p_c ?_ | refine p_bin ?_ | refine p_as ?_ | refine p_cons ?_ | refine p_nil ?_ | refine p_un ?_ | refine p_call ?_ | refine p_if ?_ | refine p_own ?_
  | refine p_keep ?_ | refine p_tru ?_ | refine p_and ?_ | refine p_or ?_ | refine p_not ?_ | refine p_val ?_ | refine p_rand ?_ | refine p_ror ?_ | refine p_rnot ?_ | refine p_chain ?_
  | refine o_add ?_ | refine o_sub ?_ | refine o_lt ?_ | refine o_le ?_ | refine o_gt ?_ | refine o_ge ?_ | refine o_neg ?_ | refine o_eqI ?_ | refine o_neI ?_ | refine o_abs ?_ | refine o_tru ?_ | refine p_true ?_ | refine p_false ?_
  | refine s_par ?_ | refine p_yes ?_ | refine p_lc ?_ | refine p_seq ?_ | refine s_gnil ?_ | refine s_gcons ?_)
local macro_rules | `(tactic| walk_at "2") => `(tactic| first
  | walk_at "1"
  | (with_reducible refine p_var2 ?_)
  | ((with_reducible refine s_name ?_ ?_); (· exact Nat.le_of_ble_eq_true rfl); dsimp only [List.set_cons_zero, List.set_cons_succ])
  | (with_reducible refine p_tup ?_) | ((with_reducible refine ⟨?_, ?_⟩); (· exact Nat.le_of_ble_eq_true rfl))
  | ((with_reducible refine p_ex2 (x := ?_) (y := ?_) ?_ ?_); rotate_left; rotate_left; (· rfl); refine ⟨?_, ?_, ?_⟩; (· exact Nat.le_of_ble_eq_true rfl); (· exact Nat.le_of_ble_eq_true rfl); dsimp only [List.set_cons_zero, List.set_cons_succ])
  | ((with_reducible refine p_isT ?_ ?_); (· rfl)) | ((with_reducible refine p_isF ?_ ?_); (· rfl))
  | ((with_reducible refine p_ex (x := ?_) ?_ ?_); rotate_left; (· rfl)))


theorem mixed_spec (c k : Int) (h0 : 0 ≤ k) (hk : k < 2 ^ 40) (S : Sto) (hS : Sane S) : ∃ v : Int, m__law_mixed [.int c, .int k] S = .ok (.int v) S ∧ 0 ≤ v ∧ v < 2147483647 := by
  have f0 : 0 ≤ Int.fmod c 1000000007 := Int.fmod_nonneg_of_pos _ (by decide)
  have f1 : Int.fmod c 1000000007 < 1000000007 := Int.fmod_lt_of_pos _ (by decide)
  have hz : ∃ z : Int, z = Int.fmod c 1000000007 + 7919 * k + 13 := ⟨_, rfl⟩
  obtain ⟨z, hz⟩ := hz
  have z0 : 0 ≤ z := by omega
  have z1 : z < 2 ^ 60 := by omega
  refine ⟨Int.fmod (Int.fmod (z * z) 1000000007 * 48271) 2147483647, m_defS hS rfl ?_, Int.fmod_nonneg_of_pos _ (by decide), Int.fmod_lt_of_pos _ (by decide)⟩
  show (b__law_mixed [some (.int c), some (.int k)] S).post _ _ _ _
  unfold b__law_mixed
  repeat walk_at "2"
  refine o_mod (by decide) ?_
  repeat walk_at "2"
  refine o_mul (fits_of (a := 13) (b := 40) (by decide) (by omega) (by decide)) ?_
  repeat walk_at "2"
  rw [← hz]
  refine o_mul (fits_of (a := 60) (b := 60) (by omega) (by omega) (by decide)) ?_
  repeat walk_at "2"
  refine o_mod (by decide) ?_
  repeat walk_at "2"
  have g0 : 0 ≤ Int.fmod (z * z) 1000000007 := Int.fmod_nonneg_of_pos _ (by decide)
  have g1 : Int.fmod (z * z) 1000000007 < 1000000007 := Int.fmod_lt_of_pos _ (by decide)
  refine o_mul (fits_of (a := 30) (b := 16) (by omega) (by decide) (by decide)) ?_
  repeat walk_at "2"
  refine o_mod (by decide) ?_
  exact ⟨rfl, rfl⟩
/-- a state of the draw -/
def stD (l s t : Int) : D := .dct [(.str "left", .int l), (.str "seed", .int s), (.str "turns", .int t)]
theorem stD_closed {n : Nat} {l s t : Int} : D.closed n (stD l s t) = true := by unfold stD; kernel_rfl
theorem look_left {l s t : D} : lookD [(.str "left", l), (.str "seed", s), (.str "turns", t)] (.str "left") = some l := by kernel_rfl
theorem look_seed {l s t : D} : lookD [(.str "left", l), (.str "seed", s), (.str "turns", t)] (.str "seed") = some s := by kernel_rfl
theorem look_turns {l s t : D} : lookD [(.str "left", l), (.str "seed", s), (.str "turns", t)] (.str "turns") = some t := by kernel_rfl
theorem put_left {l s t z : D} : putD [(.str "left", l), (.str "seed", s), (.str "turns", t)] (.str "left") z = [(.str "left", z), (.str "seed", s), (.str "turns", t)] := by kernel_rfl
theorem put_turns {l s t z : D} : putD [(.str "left", l), (.str "seed", s), (.str "turns", t)] (.str "turns") z = [(.str "left", l), (.str "seed", s), (.str "turns", z)] := by kernel_rfl
theorem put_3 {l s t : D} : mergeD [] [(.str "left", l), (.str "seed", s), (.str "turns", t)] = [(.str "left", l), (.str "seed", s), (.str "turns", t)] := by kernel_rfl
theorem key_str {x : Str} : isKey (.str x) = true := rfl
/-- the state at k: turns at most n -/
def Sta (n : Nat) (S : Sto) (k : Nat) : Prop := ∃ l s t : Int, S[k]? = some (stD l s t) ∧ 0 ≤ l ∧ 0 ≤ t ∧ t ≤ n
theorem But.set {k : Nat} {S S' : Sto} {l s t : Int} (h : But k S S') : But k S (S'.set k (stD l s t)) :=
  ⟨by rw [List.length_set]; exact h.len, fun j hj => by rw [List.getElem?_set_ne (Ne.symm hj)]; exact h.at_ j hj, sane_set h.sane stD_closed⟩
theorem sta_set {n k : Nat} {S : Sto} {l s t : Int} (hk : k < S.length) (h1 : 0 ≤ l) (h2 : 0 ≤ t) (h3 : t ≤ n) : Sta n (S.set k (stD l s t)) k := ⟨l, s, t, List.getElem?_set_self hk, h1, h2, h3⟩
theorem set_at {k : Nat} {S : Sto} {d : D} (hk : k < S.length) : (S.set k d)[k]? = some d := List.getElem?_set_self hk
theorem digit_spec {n : Nat} {S : Sto} {k : Nat} (hS : Sane S) (hst : Sta n S k) (many : Int) (h1 : 1 ≤ many) (h2 : many < 2 ^ 200) (hn : n < 2 ^ 30) :
    (m__law_digit [.ptr k, .int many] S).post fun d S' => ∃ v : Int, d = .int v ∧ 0 ≤ v ∧ v < many ∧ Sta (n + 1) S' k ∧ But k S S' := by
  obtain ⟨l, s, t, hk, hl, ht0, ht⟩ := hst
  have hlt : k < S.length := (List.getElem?_eq_some_iff.mp hk).1
  have h3 : sizeLine > 3 := by decide
  refine m_defR ?_
  show (b__law_digit [some (.ptr k), some (.int many), none, none] S).post _ _ _ _
  unfold b__law_digit
  -- behind the first if
  have fin : ∀ (z : Option D) (S1 : Sto) (l1 s1 t1 : Int), But k S S1 → S1[k]? = some (stD l1 s1 t1) → 0 ≤ l1 → 0 ≤ t1 → t1 ≤ n + 1 →
      ((sSeq (sAsg (rBin gMod (rBin gGet (rVar 0) (rC (.str "left"))) (rVar 1)) (gName 3)) (sSeq (sPut (rVar 0) (rC (.str "left")) (rBin gDiv (rBin gGet (rVar 0) (rC (.str "left"))) (rVar 1))) (sRet (rVar 3)))) [some (.ptr k), some (.int many), z, none] S1).post NoS
        (fun z S1 => S1.length = S.length ∧ Sane S1 ∧ D.closed S.length z = true ∧ ∃ v : Int, z = .int v ∧ 0 ≤ v ∧ v < many ∧ Sta (n + 1) S1 k ∧ But k S S1) NoS NoS := by
    intro z S1 l1 s1 t1 b e hl1 ht1 ht2
    repeat walk_at "2"
    refine o_get e key_str look_left ?_
    repeat walk_at "2"
    refine o_mod (by omega) ?_
    repeat walk_at "2"
    with_reducible refine s_put ?_
    repeat walk_at "2"
    refine o_get e key_str look_left ?_
    repeat walk_at "2"
    refine o_div ⟨by omega, log_of (b := 200) (by omega) (by decide)⟩ ?_
    repeat walk_at "2"
    refine ⟨k, _, rfl, e, rfl, h3, ?_⟩
    rw [put_left]
    repeat walk_at "2"
    have b' : But k S (S1.set k (stD (l1.fdiv many) s1 t1)) := b.set
    have l0 : k < S1.length := by rw [b.len]; exact hlt
    refine ⟨b'.len, b'.sane, rfl, _, rfl, Int.fmod_nonneg_of_pos _ (by omega), Int.fmod_lt_of_pos _ (by omega), ?_, b'⟩
    exact sta_set l0 (Int.fdiv_nonneg hl1 (by omega)) ht1 (by omega)
  repeat walk_at "2"
  refine o_get hk key_str look_left ?_
  repeat walk_at "2"
  refine ⟨fun h => ?_, fun h => ?_⟩
  · repeat walk_at "2"
    with_reducible refine s_put ?_
    repeat walk_at "2"
    refine o_get hk key_str look_turns ?_
    repeat walk_at "2"
    refine ⟨k, _, rfl, hk, rfl, h3, ?_⟩
    rw [put_turns]
    repeat walk_at "2"
    with_reducible refine p_range1 ?_
    repeat walk_at "2"
    refine ⟨by decide, by decide, ?_⟩
    have b0 : But k S (S.set k (stD l s (t + 1))) := But.set ⟨rfl, fun _ _ => rfl, hS⟩
    have e0 : l = 0 := by simpa using h
    refine s_forL (fun xs δ S1 => But k S S1 ∧ ∃ (i : Nat) (z : Option D) (l1 : Int), i ≤ 4 ∧ xs = (rangeD 0 (4 : Nat)).drop i ∧ δ = [some (.ptr k), some (.int many), z, none] ∧ S1[k]? = some (stD l1 s (t + 1)) ∧ 0 ≤ l1 ∧ l1 < 2 ^ (33 * i)) ?_ ?_ _ _ _ ⟨b0, 0, none, l, Nat.zero_le _, rfl, rfl, set_at hlt, hl, by rw [e0]; decide⟩
    · rintro x xs δ S1 ⟨b, i, z, l1, hi, e, hδ, hs, hl1, hl2⟩
      have hx := range_cons e
      obtain ⟨e1, hlt1, e3⟩ := hx
      subst e3
      subst e1
      subst hδ
      repeat walk_at "2"
      with_reducible refine s_put ?_
      repeat walk_at "2"
      refine o_get hs key_str look_left ?_
      repeat walk_at "2"
      have p1 : 2 ^ (33 * i) ≤ 2 ^ 132 := Nat.pow_le_pow_right (by decide) (by omega)
      have p2 : l1.natAbs < 2 ^ 132 := by
        have c : ((2 ^ (33 * i) : Nat) : Int) = (2 : Int) ^ (33 * i) := by rw [Int.natCast_pow]; rfl
        rw [← c] at hl2
        omega
      refine o_mul (fits_of (a := 132) (b := 31) p2 (by decide) (by decide)) ?_
      repeat walk_at "2"
      refine o_get hs key_str look_seed ?_
      repeat walk_at "2"
      refine o_get hs key_str look_turns ?_
      repeat walk_at "2"
      refine o_mul (fits_of (a := 3) (b := 40) (by decide) (by omega) (by decide)) ?_
      repeat walk_at "2"
      obtain ⟨v, hv, v0, v1⟩ := mixed_spec s (4 * (t + 1) + i) (by omega) (by omega) S1 b.sane
      refine Res.post.of_eq hv ?_
      repeat walk_at "2"
      refine ⟨k, _, rfl, hs, rfl, h3, ?_⟩
      rw [put_left]
      refine ⟨b.set, i + 1, some (.int i), _, by omega, rfl, rfl, set_at (by rw [b.len]; exact hlt), by omega, ?_⟩
      rw [show 33 * (i + 1) = 33 * i + 33 by omega, Int.pow_add]
      have q : l1 + 1 ≤ (2 : Int) ^ (33 * i) := by omega
      have q2 : (0 : Int) < 2 ^ (33 * i) := Int.pow_pos (by decide)
      generalize (2 : Int) ^ (33 * i) = Z at *
      omega
    · rintro δ S1 ⟨b, i, z, l1, hi, e, hδ, hs, hl1, hl2⟩
      subst hδ
      exact fin z S1 l1 s (t + 1) b hs hl1 (by omega) (by omega)
  · with_reducible refine s_next ?_
    exact fin none S l s t ⟨rfl, fun _ _ => rfl, hS⟩ hk hl ht0 (by omega)
theorem draw_spec (c : Int) (k : Nat) (hk : k < 2 ^ 20) (S : Sto) (hS : Sane S) : ∃ S', m__law_draw [.int c, .int k] S = .ok (.ptr S.length) S' ∧ Sta k S' S.length ∧ S'.length = S.length + 1 ∧ Sane S' := by
  obtain ⟨v, hv, v0, v1⟩ := mixed_spec c k (by omega) (by omega) S hS
  have go : ∃ l : Int, 0 ≤ l ∧ m__law_draw [.int c, .int k] S = .ok (.ptr S.length) (S ++ [stD l v k]) := by
    refine ⟨if 10 ^ 18 ≤ c then c else 0, ?_, m_give hS rfl stD_closed ?_⟩
    · split <;> omega
    show (b__law_draw [some (.int c), some (.int k)] S).post _ _ _ _
    unfold b__law_draw
    have fin : ∀ l : Int, l = (if 10 ^ 18 ≤ c then c else 0) → ((rPairs [((rC (.str "seed")), (rCall m__law_mixed (rCons (rVar 0) (rCons (rVar 1) rNil)))), ((rC (.str "turns")), (rVar 1))]) [some (.int c), some (.int k)] S).post (fun ps S3 => ((((D.str "left", D.int l) :: ps).all (fun p => isKey p.1) && decide (((D.str "left", D.int l) :: ps).length ≤ 15)) = true ∧ D.ptr S3.length = D.ptr S.length ∧ S3 ++ [.dct (mergeD [] ((D.str "left", D.int l) :: ps))] = S ++ [stD (if 10 ^ 18 ≤ c then c else 0) v k])) := by
      intro l hl
      with_reducible refine p_pairs ?_
      repeat walk_at "2"
      refine Res.post.of_eq hv ?_
      with_reducible refine p_pairs ?_
      repeat walk_at "2"
      with_reducible refine p_pairs_nil ?_
      refine ⟨rfl, rfl, ?_⟩
      rw [put_3, hl]
      rfl
    repeat walk_at "2"
    with_reducible refine p_disp ?_
    with_reducible refine p_pairs ?_
    repeat walk_at "2"
    refine o_pow (by decide) ?_
    repeat walk_at "2"
    refine ⟨fun h => ?_, fun h => ?_⟩
    · have h := of_decide_eq_true h
      repeat walk_at "2"
      exact fin c (by rw [if_pos (by simpa using h)])
    · have h := of_decide_eq_false h
      repeat walk_at "2"
      exact fin 0 (by rw [if_neg (by simpa using h)])
  obtain ⟨l, hl, e⟩ := go
  refine ⟨_, e, ⟨l, v, k, ?_, hl, by omega, by omega⟩, by rw [List.length_append]; rfl, sane_app hS stD_closed⟩
  rw [List.getElem?_append_right (Nat.le_refl _), Nat.sub_self]; rfl
end DL

set_option Elab.async false
set_option linter.all false
set_option maxRecDepth 100000
set_option maxHeartbeats 4000000
set_option autoImplicit false
/-! law k01, plain part: fractions of drawn numbers. -/
namespace DL
open PySem L2
local macro_rules | `(tactic| walk_at "1") => `(tactic| with_reducible first
  | refine s_seq ?_ | refine s_asg ?_ | refine s_ret ?_ | refine s_if ?_ | refine s_expr ?_ | refine s_next ?_ | refine s_brk ?_ | refine s_cont ?_ | refine s_for ?_ | refine s_while ?_
  | refine p_c ?_ | refine p_bin ?_ | refine p_as ?_ | refine p_cons ?_ | refine p_nil ?_ | refine p_un ?_ | refine p_call ?_ | refine p_if ?_ | refine p_own ?_
  | refine p_keep ?_ | refine p_tru ?_ | refine p_and ?_ | refine p_or ?_ | refine p_not ?_ | refine p_val ?_ | refine p_rand ?_ | refine p_ror ?_ | refine p_rnot ?_ | refine p_chain ?_
  | refine o_add ?_ | refine o_sub ?_ | refine o_lt ?_ | refine o_le ?_ | refine o_gt ?_ | refine o_ge ?_ | refine o_neg ?_ | refine o_eqI ?_ | refine o_neI ?_ | refine o_abs ?_ | refine o_tru ?_ | refine p_true ?_ | refine p_false ?_
  | refine s_par ?_ | refine p_yes ?_ | refine p_lc ?_ | refine p_seq ?_ | refine s_gnil ?_ | refine s_gcons ?_ | refine p_lc_nil ?_ | refine p_lc_cons ?_)
local macro_rules | `(tactic| walk_at "2") => `(tactic| first
  | walk_at "1"
  | (with_reducible refine p_var2 ?_)
  | ((with_reducible refine s_name ?_ ?_); (· exact Nat.le_of_ble_eq_true rfl); dsimp only [List.set_cons_zero, List.set_cons_succ])
  | (with_reducible refine p_tup ?_) | ((with_reducible refine ⟨?_, ?_⟩); (· exact Nat.le_of_ble_eq_true rfl))
  | ((with_reducible refine p_ex2 (x := ?_) (y := ?_) ?_ ?_); rotate_left; rotate_left; (· rfl); refine ⟨?_, ?_, ?_⟩; (· exact Nat.le_of_ble_eq_true rfl); (· exact Nat.le_of_ble_eq_true rfl); dsimp only [List.set_cons_zero, List.set_cons_succ])
  | ((with_reducible refine p_isT ?_ ?_); (· rfl)) | ((with_reducible refine p_isF ?_ ?_); (· rfl))
  | ((with_reducible refine p_ex (x := ?_) ?_ ?_); rotate_left; (· rfl)))


theorem math_plus {a b c d p q u v x y : Int} (h1 : x * c = a * y) (h2 : u * d = b * v) (h3 : p * (y * v) = (x * v + u * y) * q) (hy : 0 < y) (hv : 0 < v) : p * (c * d) = (a * d + b * c) * q := by
  have hz : y * v ≠ 0 := Int.mul_ne_zero (Int.ne_of_gt hy) (Int.ne_of_gt hv)
  exact Int.eq_of_mul_eq_mul_right hz (by
    clear hz hy hv
    grind)
theorem math_less {a b c d p q u v x y : Int} (h1 : x * c = a * y) (h2 : u * d = b * v) (h3 : p * (y * v) = (x * v - u * y) * q) (hy : 0 < y) (hv : 0 < v) : p * (c * d) = (a * d - b * c) * q := by
  have hz : y * v ≠ 0 := Int.mul_ne_zero (Int.ne_of_gt hy) (Int.ne_of_gt hv)
  exact Int.eq_of_mul_eq_mul_right hz (by
    clear hz hy hv
    grind)
theorem math_times {a b c d p q u v x y : Int} (h1 : x * c = a * y) (h2 : u * d = b * v) (h3 : p * (y * v) = (x * u) * q) (hy : 0 < y) (hv : 0 < v) : p * (c * d) = (a * b) * q := by
  have hz : y * v ≠ 0 := Int.mul_ne_zero (Int.ne_of_gt hy) (Int.ne_of_gt hv)
  exact Int.eq_of_mul_eq_mul_right hz (by
    clear hz hy hv
    grind)
theorem math_over {a b c d p q u v x y : Int} (h1 : x * c = a * y) (h2 : u * d = b * v) (h3 : p * (y * u) = (x * v) * q) (hy : 0 < y) (hv : 0 < v) : p * (b * c) = (a * d) * q := by
  have hz : y * v ≠ 0 := Int.mul_ne_zero (Int.ne_of_gt hy) (Int.ne_of_gt hv)
  exact Int.eq_of_mul_eq_mul_right hz (by
    clear hz hy hv
    grind)
theorem math_neg {a c x y : Int} (h : x * (0 - c) = a * y) : x * c = (0 - a) * y := by grind
theorem lt200 {x : Int} (h : x.natAbs < 2 ^ 67) : x.natAbs < 2 ^ 200 := by omega
theorem ltneg {x : Int} {n : Nat} (h : x.natAbs < n) : (0 - x).natAbs < n := by omega
theorem neneg {x : Int} (h : 0 < x) : 0 - x ≠ 0 := by omega
theorem pick3 {v : Int} (h0 : 0 ≤ v) (h1 : v < 3) : ∃ g : Int, atI [D.int 9, D.int 9, D.int (10 ^ 20)] v = some (.int g) ∧ 9 ≤ g ∧ g ≤ 10 ^ 20 := by
  rcases (by omega : v = 0 ∨ v = 1 ∨ v = 2) with e | e | e <;> subst e
  · exact ⟨9, rfl, by decide, by decide⟩
  · exact ⟨9, rfl, by decide, by decide⟩
  · exact ⟨10 ^ 20, rfl, by decide, by decide⟩
theorem closed_pair {n : Nat} {x y : Int} : D.closed n (.tup [.int x, .int y]) = true := rfl
theorem low_of {a b c x y : Int} (h : Low a b x y) (hb : b.natAbs < 2 ^ 140) (ha : a.natAbs < 2 ^ 140) : x.natAbs < 2 ^ 140 ∧ y.natAbs < 2 ^ 140 := ⟨Nat.lt_of_le_of_lt h.le1 ha, Nat.lt_of_le_of_lt h.le2 hb⟩
/-- what is told of the four numbers -/
theorem four_spec {a b c d : Int} (ha : a.natAbs < 2 ^ 67) (hb : b.natAbs < 2 ^ 67) (hc : c.natAbs < 2 ^ 67) (hd : d.natAbs < 2 ^ 67) (c0 : 0 < c) (d0 : 0 < d) (w1 w2 w3 w4 : Option D) (S : Sto) (hS : Sane S) {Q : D → Sto → Prop} (q : Q (.bl true) S) {r : RS}
    (hr : r = (sSeq (sIf (bOr (bNot (bTru (rCall m__law_divided (rCons (rVar 2) (rCons (rVar 4) rNil))))) (bOr (bNot (bTru (rCall m__law_divided (rCons (rBin gMul (rVar 2) (rVar 3)) (rCons (rBin gMul (rVar 3) (rVar 4)) rNil))))) (bNot (bTru (rCall m__law_lowest (rCons (rCall m_fraction (rCons (rVar 2) (rCons (rBin gSub (rC (.int 0)) (rVar 4)) rNil))) (rCons (rBin gSub (rC (.int 0)) (rVar 2)) (rCons (rVar 4) rNil)))))))) (sRet (rC (.bl false))) sNext)
    (sSeq (sPar 6 7 (rCons (rCall m_fraction (rCons (rVar 2) (rCons (rVar 4) rNil))) (rCons (rCall m_fraction (rCons (rVar 3) (rCons (rVar 5) rNil))) rNil)))
    (sSeq (sIf (bOr (bNot (bTru (rCall m__law_lowest (rCons (rVar 6) (rCons (rVar 2) (rCons (rVar 4) rNil)))))) (bNot (bTru (rCall m__law_lowest (rCons (rCall m_plus (rCons (rVar 6) (rCons (rVar 7) rNil))) (rCons (rBin gAdd (rBin gMul (rVar 2) (rVar 5)) (rBin gMul (rVar 3) (rVar 4))) (rCons (rBin gMul (rVar 4) (rVar 5)) rNil))))))) (sRet (rC (.bl false))) sNext)
    (sSeq (sIf (bOr (bNot (bTru (rCall m__law_lowest (rCons (rCall m_less (rCons (rVar 6) (rCons (rVar 7) rNil))) (rCons (rBin gSub (rBin gMul (rVar 2) (rVar 5)) (rBin gMul (rVar 3) (rVar 4))) (rCons (rBin gMul (rVar 4) (rVar 5)) rNil)))))) (bNot (bTru (rCall m__law_lowest (rCons (rCall m_times (rCons (rVar 6) (rCons (rVar 7) rNil))) (rCons (rBin gMul (rVar 2) (rVar 3)) (rCons (rBin gMul (rVar 4) (rVar 5)) rNil))))))) (sRet (rC (.bl false))) sNext)
    (sRet (rOr (rBin gEq (rVar 3) (rC (.int 0))) (rCall m__law_lowest (rCons (rCall m_over (rCons (rVar 6) (rCons (rVar 7) rNil))) (rCons (rBin gMul (rVar 2) (rVar 5)) (rCons (rBin gMul (rVar 3) (rVar 4)) rNil))))))))))) :
    (r [w1, w2, some (.int a), some (.int b), some (.int c), some (.int d), none, none, w4] S).post NoS Q NoS NoS := by
  subst hr
  obtain ⟨x0, y0, e0, L0⟩ := fraction_spec a (0 - c) (neneg c0) (ltneg (lt200 hc)) S hS
  obtain ⟨x, y, e1, L1⟩ := fraction_spec a c (Int.ne_of_gt c0) (lt200 hc) S hS
  obtain ⟨u, v, e2, L2⟩ := fraction_spec b d (Int.ne_of_gt d0) (lt200 hd) S hS
  have hx : x.natAbs < 2 ^ 67 := Nat.lt_of_le_of_lt L1.le1 ha
  have hy : y.natAbs < 2 ^ 67 := Nat.lt_of_le_of_lt L1.le2 hc
  have hu : u.natAbs < 2 ^ 67 := Nat.lt_of_le_of_lt L2.le1 hb
  have hv : v.natAbs < 2 ^ 67 := Nat.lt_of_le_of_lt L2.le2 hd
  have y0 := L1.pos
  have v0 := L2.pos
  have hyv : y * v ≠ 0 := Int.mul_ne_zero (Int.ne_of_gt y0) (Int.ne_of_gt v0)
  have nyv := lt_mul hy hv
  obtain ⟨p1, q1, e3, L3⟩ := fraction_spec (x * v + u * y) (y * v) hyv (Nat.lt_trans nyv (by decide)) S hS
  obtain ⟨p2, q2, e4, L4⟩ := fraction_spec (x * v - u * y) (y * v) hyv (Nat.lt_trans nyv (by decide)) S hS
  obtain ⟨p3, q3, e5, L5⟩ := fraction_spec (x * u) (y * v) hyv (Nat.lt_trans nyv (by decide)) S hS
  have ft : ∀ {i j : Int}, i.natAbs < 2 ^ 67 → j.natAbs < 2 ^ 67 → mulFits i j = true := fun h1 h2 => fits_of h1 h2 (by decide)
  have fl : ∀ {i j : Int}, i.natAbs < 2 ^ 140 → j.natAbs < 2 ^ 140 → mulFits i j = true := fun h1 h2 => fits_of h1 h2 (by decide)
  have up : ∀ {i : Int} {n : Nat}, i.natAbs < 2 ^ n → n ≤ 140 → i.natAbs < 2 ^ 140 := fun h1 h2 => Nat.lt_of_lt_of_le h1 (Nat.pow_le_pow_right (by decide) h2)
  have bcd := up (lt_mul hc hd) (by decide)
  have bad := up (lt_mul ha hd) (by decide)
  have bbc := up (lt_mul hb hc) (by decide)
  have bs := up (lt_add (lt_mul ha hd) (lt_mul hb hc)) (by decide)
  have bd := up (lt_sub (lt_mul ha hd) (lt_mul hb hc)) (by decide)
  have bab := up (lt_mul ha hb) (by decide)
  have b3 := Nat.lt_of_le_of_lt L3.le1 (up (lt_add (lt_mul hx hv) (lt_mul hu hy)) (by decide))
  have b3' := Nat.lt_of_le_of_lt L3.le2 (up nyv (by decide))
  have b4 := Nat.lt_of_le_of_lt L4.le1 (up (lt_sub (lt_mul hx hv) (lt_mul hu hy)) (by decide))
  have b4' := Nat.lt_of_le_of_lt L4.le2 (up nyv (by decide))
  have b5 := Nat.lt_of_le_of_lt L5.le1 (up (lt_mul hx hu) (by decide))
  have b5' := Nat.lt_of_le_of_lt L5.le2 (up nyv (by decide))
  repeat walk_at "2"
  refine Res.post.of_eq (divided_spec a c (lt200 ha) (lt200 hc) S hS) ?_
  repeat walk_at "2"
  refine o_mul (ft ha hb) ?_
  repeat walk_at "2"
  refine o_mul (ft hb hc) ?_
  repeat walk_at "2"
  refine Res.post.of_eq (divided_spec (a * b) (b * c) (Nat.lt_trans (lt_mul ha hb) (by decide)) (Nat.lt_trans (lt_mul hb hc) (by decide)) S hS) ?_
  repeat walk_at "2"
  refine Res.post.of_eq e0 ?_
  repeat walk_at "2"
  refine Res.post.of_eq (lowest_spec L0.pos L0.one (math_neg L0.eq) (ft (Nat.lt_of_le_of_lt L0.le1 ha) hc) (ft (ltneg ha) (Nat.lt_of_le_of_lt L0.le2 (ltneg hc))) S hS) ?_
  repeat walk_at "2"
  refine Res.post.of_eq e1 ?_
  repeat walk_at "2"
  refine Res.post.of_eq e2 ?_
  repeat walk_at "2"
  refine Res.post.of_eq (lowest_spec L1.pos L1.one L1.eq (ft hx hc) (ft ha hy) S hS) ?_
  repeat walk_at "2"
  refine Res.post.of_eq (put_plus hS (ft hx hv) (ft hu hy) (ft hy hv) e3 rfl) ?_
  repeat walk_at "2"
  refine o_mul (ft ha hd) ?_
  repeat walk_at "2"
  refine o_mul (ft hb hc) ?_
  repeat walk_at "2"
  refine o_mul (ft hc hd) ?_
  repeat walk_at "2"
  refine Res.post.of_eq (lowest_spec L3.pos L3.one (math_plus L1.eq L2.eq L3.eq y0 v0) (fl b3 bcd) (fl bs b3') S hS) ?_
  repeat walk_at "2"
  refine Res.post.of_eq (put_less hS (ft hx hv) (ft hu hy) (ft hy hv) e4 rfl) ?_
  repeat walk_at "2"
  refine o_mul (ft ha hd) ?_
  repeat walk_at "2"
  refine o_mul (ft hb hc) ?_
  repeat walk_at "2"
  refine o_mul (ft hc hd) ?_
  repeat walk_at "2"
  refine Res.post.of_eq (lowest_spec L4.pos L4.one (math_less L1.eq L2.eq L4.eq y0 v0) (fl b4 bcd) (fl bd b4') S hS) ?_
  repeat walk_at "2"
  refine Res.post.of_eq (put_times hS (ft hx hu) (ft hy hv) e5 rfl) ?_
  repeat walk_at "2"
  refine o_mul (ft ha hb) ?_
  repeat walk_at "2"
  refine o_mul (ft hc hd) ?_
  repeat walk_at "2"
  refine Res.post.of_eq (lowest_spec L5.pos L5.one (math_times L1.eq L2.eq L5.eq y0 v0) (fl b5 bcd) (fl bab b5') S hS) ?_
  repeat walk_at "2"
  refine ⟨fun h => ?_, fun h => ?_⟩
  · rw [h]; exact q
  · have nb : b ≠ 0 := by simpa using h
    have nu : u ≠ 0 := fun z => by
      have := L2.eq
      rw [z, Int.zero_mul] at this
      exact Int.mul_ne_zero nb (Int.ne_of_gt v0) this.symm
    have hyu : y * u ≠ 0 := Int.mul_ne_zero (Int.ne_of_gt y0) nu
    have nyu := lt_mul hy hu
    obtain ⟨p4, q4, e6, L6⟩ := fraction_spec (x * v) (y * u) hyu (Nat.lt_trans nyu (by decide)) S hS
    have b6 := Nat.lt_of_le_of_lt L6.le1 (up (lt_mul hx hv) (by decide))
    have b6' := Nat.lt_of_le_of_lt L6.le2 (up nyu (by decide))
    repeat walk_at "2"
    refine Res.post.of_eq (put_over hS (ft hx hv) (ft hy hu) e6 rfl) ?_
    repeat walk_at "2"
    refine o_mul (ft ha hd) ?_
    repeat walk_at "2"
    refine o_mul (ft hb hc) ?_
    repeat walk_at "2"
    exact Res.post.of_eq (lowest_spec L6.pos L6.one (math_over L1.eq L2.eq L6.eq y0 v0) (fl b6 bbc) (fl bad b6') S hS) q
end DL

set_option Elab.async false
set_option linter.all false
set_option maxRecDepth 100000
set_option maxHeartbeats 4000000
set_option autoImplicit false
/-! law k01, plain part: the fractions' turn. -/
namespace DL
open PySem L2
local macro_rules | `(tactic| walk_at "1") => `(tactic| with_reducible first
  | refine s_seq ?_ | refine s_asg ?_ | refine s_ret ?_ | refine s_if ?_ | refine s_expr ?_ | refine s_next ?_ | refine s_brk ?_ | refine s_cont ?_ | refine s_for ?_ | refine s_while ?_
  | refine p_c ?_ | refine p_bin ?_ | refine p_as ?_ | refine p_cons ?_ | refine p_nil ?_ | refine p_un ?_ | refine p_call ?_ | refine p_if ?_ | refine p_own ?_
  | refine p_keep ?_ | refine p_tru ?_ | refine p_and ?_ | refine p_or ?_ | refine p_not ?_ | refine p_val ?_ | refine p_rand ?_ | refine p_ror ?_ | refine p_rnot ?_ | refine p_chain ?_
  | refine o_add ?_ | refine o_sub ?_ | refine o_lt ?_ | refine o_le ?_ | refine o_gt ?_ | refine o_ge ?_ | refine o_neg ?_ | refine o_eqI ?_ | refine o_neI ?_ | refine o_abs ?_ | refine o_tru ?_ | refine p_true ?_ | refine p_false ?_
  | refine s_par ?_ | refine p_yes ?_ | refine p_lc ?_ | refine p_seq ?_ | refine s_gnil ?_ | refine s_gcons ?_ | refine p_lc_nil ?_ | refine p_lc_cons ?_)
local macro_rules | `(tactic| walk_at "2") => `(tactic| first
  | walk_at "1"
  | (with_reducible refine p_var2 ?_)
  | ((with_reducible refine s_name ?_ ?_); (· exact Nat.le_of_ble_eq_true rfl); dsimp only [List.set_cons_zero, List.set_cons_succ])
  | (with_reducible refine p_tup ?_) | ((with_reducible refine ⟨?_, ?_⟩); (· exact Nat.le_of_ble_eq_true rfl))
  | ((with_reducible refine p_ex2 (x := ?_) (y := ?_) ?_ ?_); rotate_left; rotate_left; (· rfl); refine ⟨?_, ?_, ?_⟩; (· exact Nat.le_of_ble_eq_true rfl); (· exact Nat.le_of_ble_eq_true rfl); dsimp only [List.set_cons_zero, List.set_cons_succ])
  | ((with_reducible refine p_isT ?_ ?_); (· rfl)) | ((with_reducible refine p_isF ?_ ?_); (· rfl))
  | ((with_reducible refine p_ex (x := ?_) ?_ ?_); rotate_left; (· rfl)))


theorem two_ints (S : Sto) : rangeD 0 2 = [.int 0, .int 1] := rfl
theorem fractions_right {n : Nat} {S : Sto} {k : Nat} (hS : Sane S) (hst : Sta n S k) (hn : n < 2 ^ 29) : (m__law_fractions_right [.ptr k] S).post fun d S' => d = .bl true ∧ Sta (n + 5) S' k ∧ But k S S' := by
  have hlen : ∀ {n S}, Sta n S k → k < S.length := fun ⟨_, _, _, e, _⟩ => (List.getElem?_eq_some_iff.mp e).1
  refine m_defR ?_
  show (b__law_fractions_right [some (.ptr k), none, none, none, none, none, none, none, none] S).post _ _ _ _
  unfold b__law_fractions_right
  repeat walk_at "2"
  with_reducible refine p_lst ?_
  repeat walk_at "2"
  refine o_pow (by decide) ?_
  repeat walk_at "2"
  refine (digit_spec hS hst 3 (by decide) (by decide) (by omega)).mono ?_
  rintro d S1 ⟨v, e1, h0, h1, st1, b1⟩
  subst e1
  obtain ⟨g, eg, g0, g1⟩ := pick3 h0 h1
  refine o_ixL eg ?_
  clear eg h0 h1
  repeat walk_at "2"
  with_reducible refine p_range1 ?_
  repeat walk_at "2"
  refine ⟨by decide, by decide, ?_⟩
  rw [two_ints S]
  dsimp only [wipeD, List.set_cons_zero, List.set_cons_succ]
  repeat walk_at "2"
  refine o_mul (fits_of (a := 3) (b := 68) (by decide) (by omega) (by decide)) ?_
  repeat walk_at "2"
  refine (digit_spec b1.sane st1 (2 * g + 1) (by omega) (by omega) (by omega)).mono ?_
  rintro d S2 ⟨a, e2, a0, a1, st2, b2⟩
  subst e2
  repeat walk_at "2"
  refine o_mul (fits_of (a := 3) (b := 68) (by decide) (by omega) (by decide)) ?_
  repeat walk_at "2"
  refine (digit_spec b2.sane st2 (2 * g + 1) (by omega) (by omega) (by omega)).mono ?_
  rintro d S3 ⟨b, e3, b0, b1', st3, b3⟩
  subst e3
  repeat walk_at "2"
  refine s_gunl rfl ?_
  repeat walk_at "2"
  with_reducible refine p_range1 ?_
  repeat walk_at "2"
  refine ⟨by decide, by decide, ?_⟩
  rw [two_ints S]
  dsimp only [wipeD, List.set_cons_zero, List.set_cons_succ]
  repeat walk_at "2"
  refine (digit_spec b3.sane st3 g (by omega) (by omega) (by omega)).mono ?_
  rintro d S4 ⟨c, e4, c0, c1, st4, b4⟩
  subst e4
  repeat walk_at "2"
  refine (digit_spec b4.sane st4 g (by omega) (by omega) (by omega)).mono ?_
  rintro d S5 ⟨d, e5, d0, d1, st5, b5⟩
  subst e5
  repeat walk_at "2"
  refine s_gunl rfl ?_
  walk_at "2"
  walk_at "2"
  walk_at "2"
  walk_at "2"
  walk_at "2"
  have B : But k S S5 := b1.trans (b2.trans (b3.trans (b4.trans b5)))
  refine Out.post.mono (four_spec (a := a - g) (b := b - g) (c := 1 + c) (d := 1 + d) (by omega) (by omega) (by omega) (by omega) (by omega) (by omega) _ _ none _ S5 b5.sane (Q := fun z S' => z = .bl true ∧ S' = S5) ⟨rfl, rfl⟩ rfl) (fun _ _ z => z) ?_ (fun _ _ z => z) (fun _ _ z => z)
  rintro z S' ⟨hz, hS'⟩
  subst hz
  subst hS'
  exact ⟨B.len, B.sane, rfl, rfl, st5, B⟩
end DL

set_option Elab.async false
set_option linter.all false
set_option maxRecDepth 100000
set_option maxHeartbeats 4000000
set_option autoImplicit false
/-! law k01, plain part: words of figures. -/
namespace DL
open PySem L2
local macro_rules | `(tactic| walk_at "1") => `(tactic| with_reducible first
  | refine s_seq ?_ | refine s_asg ?_ | refine s_ret ?_ | refine s_if ?_ | refine s_expr ?_ | refine s_next ?_ | refine s_brk ?_ | refine s_cont ?_ | refine s_for ?_ | refine s_while ?_
  | refine p_c ?_ | refine p_bin ?_ | refine p_as ?_ | refine p_cons ?_ | refine p_nil ?_ | refine p_un ?_ | refine p_call ?_ | refine p_if ?_ | refine p_own ?_
  | refine p_keep ?_ | refine p_tru ?_ | refine p_and ?_ | refine p_or ?_ | refine p_not ?_ | refine p_val ?_ | refine p_rand ?_ | refine p_ror ?_ | refine p_rnot ?_ | refine p_chain ?_
  | refine o_add ?_ | refine o_sub ?_ | refine o_lt ?_ | refine o_le ?_ | refine o_gt ?_ | refine o_ge ?_ | refine o_neg ?_ | refine o_eqI ?_ | refine o_neI ?_ | refine o_abs ?_ | refine o_tru ?_ | refine p_true ?_ | refine p_false ?_
  | refine s_par ?_ | refine p_yes ?_ | refine p_lc ?_ | refine p_seq ?_ | refine s_gnil ?_ | refine s_gcons ?_ | refine p_lc_nil ?_ | refine p_lc_cons ?_ | refine p_cutS ?_ | refine p_onone ?_ | refine p_osome ?_)
local macro_rules | `(tactic| walk_at "2") => `(tactic| first
  | walk_at "1"
  | (with_reducible refine p_var2 ?_)
  | ((with_reducible refine s_name ?_ ?_); (· exact Nat.le_of_ble_eq_true rfl); dsimp only [List.set_cons_zero, List.set_cons_succ])
  | (with_reducible refine p_tup ?_) | ((with_reducible refine ⟨?_, ?_⟩); (· exact Nat.le_of_ble_eq_true rfl))
  | ((with_reducible refine p_ex2 (x := ?_) (y := ?_) ?_ ?_); rotate_left; rotate_left; (· rfl); refine ⟨?_, ?_, ?_⟩; (· exact Nat.le_of_ble_eq_true rfl); (· exact Nat.le_of_ble_eq_true rfl); dsimp only [List.set_cons_zero, List.set_cons_succ])
  | ((with_reducible refine p_isT ?_ ?_); (· rfl)) | ((with_reducible refine p_isF ?_ ?_); (· rfl))
  | ((with_reducible refine p_ex (x := ?_) ?_ ?_); rotate_left; (· rfl)))


/-- the figures behind a sign -/
def plain (cs : List Nat) : List Nat := if cs.head? = some 45 then cs.drop 1 else cs
/-- a number's word -/
structure NumW (cs : List Nat) : Prop where
  lo : 1 ≤ (plain cs).length
  hi : (plain cs).length ≤ 40
  dig : NumText.AllDigits (plain cs)
  nz : ¬ ((plain cs).head? = some 48 ∧ cs ≠ [48])
def numV (cs : List Nat) : Int := if cs.head? = some 45 then -((NumText.digitsVal (plain cs) : Nat) : Int) else (NumText.digitsVal (plain cs) : Nat)
theorem Fine.plain {cs : List Nat} (h : Fine cs) : Fine (DL.plain cs) := by
  unfold DL.plain
  split
  · exact h.drop 1
  · exact h
theorem plain_len {cs : List Nat} : (plain cs).length ≤ cs.length := by
  unfold plain
  split <;> simp
theorem dash : ("-" : Str) = mk [45] := by kernel_rfl
theorem nought : ("0" : Str) = mk [48] := by kernel_rfl
theorem take1 (cs : List Nat) : (cs.take 1 = [45]) ↔ cs.head? = some 45 := by
  rcases cs with _ | ⟨a, r⟩
  · simp
  · simp
theorem head_at {p : List Nat} (h : 1 ≤ p.length) : ∃ a, p.head? = some a ∧ atI (mk p).cps.toList 0 = some a := by
  rcases p with _ | ⟨a, r⟩
  · simp at h
  · exact ⟨a, rfl, by rw [mk_list]; unfold atI ixN; simp⟩
theorem digits_dec (p : List Nat) : (p.filter fun c => !decide (c ∈ ("0123456789" : Str).cps.toList)) = [] ↔ NumText.AllDigits p := by
  rw [List.filter_eq_nil_iff]
  constructor
  · intro h c hc
    have := h c hc
    exact (in_figs c).mp (by simpa using this)
  · intro h c hc
    have := (in_figs c).mpr (h c hc)
    simp [this]
theorem figures_spec {cs : List Nat} (hf : Fine cs) (hl : cs.length ≤ 6000) (S : Sto) (hS : Sane S) (d : D) (hg : NumW cs → d = .int (numV cs)) (hb : ¬ NumW cs → d = .non) : m__law_figures [.str (mk cs)] S = .ok d S := by
  have sl : 6001 ≤ sizeLine := by decide
  have zl : (mk cs).length ≤ sizeLine := by rw [mk_len]; omega
  have hp := hf.plain
  have pl := plain_len (cs := cs)
  have zp : (mk (plain cs)).length ≤ sizeLine := by rw [mk_len]; omega
  have hc : D.closed S.length d = true := by
    by_cases z : NumW cs
    · rw [hg z]; rfl
    · rw [hb z]; rfl
  refine m_defS hS hc ?_
  show (b__law_figures [some (.str (mk cs)), none, none, none, none] S).post _ _ _ _
  unfold b__law_figures
  with_reducible refine s_seq ?_
  with_reducible refine s_asg ?_
  refine Res.post.mono (Q1 := fun d S1 => d = .str (mk (plain cs)) ∧ S1 = S) ?_ ?_
  · repeat walk_at "2"
    refine ⟨zl, ?_⟩
    rw [cut_head, dash]
    repeat walk_at "2"
    refine o_eqS (hf.take 1).ok (Fine.ok fun c h => by rw [List.mem_singleton.mp h]; decide) ?_
    rw [mk_beq]
    repeat walk_at "2"
    refine ⟨fun h => ?_, fun h => ?_⟩
    · have h := (take1 cs).mp (of_decide_eq_true h)
      repeat walk_at "2"
      refine ⟨zl, ?_⟩
      rw [cut_tail]
      unfold plain
      rw [if_pos h]
      exact ⟨rfl, rfl⟩
    · have h := fun z => (of_decide_eq_false h) ((take1 cs).mpr z)
      repeat walk_at "2"
      unfold plain
      rw [if_neg h]
      exact ⟨rfl, rfl⟩
  rintro d1 S1 ⟨e1, e2⟩
  subst e1
  subst e2
  generalize hpp : plain cs = p at *
  repeat walk_at "2"
  refine .inr (.inr ⟨_, rfl, ?_⟩)
  rw [walk_mk]
  dsimp only [wipeD, List.set_cons_zero, List.set_cons_succ]
  refine Res.post.of_eq (lcL_filter (p := fun x => match x with | .str s => !decide (s.cps.getD 0 0 ∈ ("0123456789" : Str).cps.toList) | _ => false) (by exact Nat.le_of_ble_eq_true rfl) (fun x hx => ?_) (fun x hx => ?_)) ?_
  · obtain ⟨c, hc, rfl⟩ := sgs_mem hx
    refine exact_of ?_
    repeat walk_at "2"
    refine o_notIn1 ?_
    repeat walk_at "2"
    exact ⟨rfl, rfl⟩
  · obtain ⟨c, hc, rfl⟩ := sgs_mem hx
    rfl
  rw [sgs_filter (fun c => !decide (c ∈ ("0123456789" : Str).cps.toList)) _ (fun c => rfl)]
  have fl : (sgs (p.filter fun c => !decide (c ∈ ("0123456789" : Str).cps.toList))).length ≤ sizeLine := by
    unfold sgs
    rw [List.length_map]
    have := List.length_filter_le (fun c => !decide (c ∈ ("0123456789" : Str).cps.toList)) p
    omega
  refine ⟨fl, ?_⟩
  walk_at "2"
  walk_at "2"
  walk_at "2"
  walk_at "2"
  have hfl : ∀ c ∈ p.filter (fun c => !decide (c ∈ ("0123456789" : Str).cps.toList)), c < 128 := fun c hc => hp c (List.mem_filter.mp hc).1
  refine Res.post.mono (Q1 := fun k S2 => (k = true ↔ ¬ NumW cs) ∧ S2 = S1) ?_ ?_
  · have bad : ¬ NumW cs → (true = true ↔ ¬ NumW cs) ∧ S1 = S1 := fun z => ⟨⟨fun _ => z, fun _ => rfl⟩, rfl⟩
    have good : NumW cs → (false = true ↔ ¬ NumW cs) ∧ S1 = S1 := fun z => ⟨⟨fun y => (nomatch y), fun y => absurd z y⟩, rfl⟩
    repeat walk_at "2"
    refine o_len zp ?_
    rw [mk_len]
    repeat walk_at "2"
    refine ⟨fun h1 => ?_, fun h1 => ?_⟩
    · have h1 := of_decide_eq_true h1
      repeat walk_at "2"
      refine ⟨fun h2 => ?_, fun h2 => ?_⟩
      · have h2 : ¬ (p.length : Int) ≤ 40 := by simpa using h2
        exact bad fun z => by have := z.hi; rw [hpp] at this; omega
      · have h2 : (p.length : Int) ≤ 40 := by simpa using h2
        repeat walk_at "2"
        with_reducible refine p_lst ?_
        repeat walk_at "2"
        rw [sgs_eq]
        refine o_neStrs (ys := []) (sg_ok hfl) (fun _ z => nomatch z) ?_
        repeat walk_at "2"
        by_cases hd : NumText.AllDigits p
        · rw [(digits_dec p).mpr hd]
          repeat walk_at "2"
          obtain ⟨a, ha, e⟩ := head_at (p := p) (by omega)
          refine o_ixS zp e ?_
          repeat walk_at "2"
          rw [nought]
          have ha1 : a < 128 := hp a (List.mem_of_mem_head? ha)
          refine o_eqS (x := mk [a]) (y := mk [48]) (Fine.ok fun c h => by rw [List.mem_singleton.mp h]; exact ha1) (Fine.ok fun c h => by rw [List.mem_singleton.mp h]; decide) ?_
          rw [mk_beq]
          repeat walk_at "2"
          refine ⟨fun h3 => ?_, fun h3 => ?_⟩
          · have h3 : a = 48 := by simpa using h3
            repeat walk_at "2"
            refine o_neS (x := mk cs) (y := mk [48]) hf.ok (Fine.ok fun c h => by rw [List.mem_singleton.mp h]; decide) ?_
            rw [mk_beq]
            repeat walk_at "2"
            by_cases h4 : cs = [48]
            · rw [decide_eq_true h4]
              exact good ⟨by rw [hpp]; omega, by rw [hpp]; omega, by rw [hpp]; exact hd, fun z => z.2 h4⟩
            · rw [decide_eq_false h4]
              exact bad fun z => z.nz ⟨by rw [hpp, ha, h3], h4⟩
          · have h3 : a ≠ 48 := by simpa using h3
            exact good ⟨by rw [hpp]; omega, by rw [hpp]; omega, by rw [hpp]; exact hd, fun z => by
              have := z.1
              rw [hpp, ha] at this
              exact h3 (Option.some.inj this)⟩
        · have ne : (p.filter fun c => !decide (c ∈ ("0123456789" : Str).cps.toList)).map sg ≠ [] := fun z => hd ((digits_dec p).mp (List.map_eq_nil_iff.mp z))
          rw [decide_eq_false ne]
          repeat walk_at "2"
          exact bad fun z => hd (by have := z.dig; rwa [hpp] at this)
    · have h1 : ¬ (1 : Int) ≤ p.length := of_decide_eq_false h1
      repeat walk_at "2"
      exact bad fun z => by have := z.lo; rw [hpp] at this; omega
  rintro k S2 ⟨hk, e⟩
  subst e
  refine ⟨fun h => ?_, fun h => ?_⟩
  · rw [hb (hk.mp h)]
    repeat walk_at "2"
    exact ⟨rfl, rfl⟩
  · have hn : NumW cs := by
      by_cases z : NumW cs
      · exact z
      · rw [hk.mpr z] at h; cases h
    rw [hg hn]
    have dg := hn.dig
    have hi := hn.hi
    rw [hpp] at dg hi
    repeat walk_at "2"
    refine .inr (.inr ⟨_, rfl, ?_⟩)
    rw [walk_mk]
    generalize hw : (some (D.lst (sgs (p.filter fun c => !decide (c ∈ ("0123456789" : Str).cps.toList)))) : Option D) = w
    refine s_forL (fun xs δ S1 => S1 = S2 ∧ ∃ (r : List Nat) (acc : Nat) (z : Option D), xs = sgs r ∧ NumText.AllDigits r ∧ r.length ≤ 40 ∧ r.foldl (fun acc c => acc * 10 + (c - 48)) acc = NumText.digitsVal p ∧ acc * 10 ^ r.length < 10 ^ 40 ∧ δ = [some (.str (mk cs)), some (.str (mk p)), w, some (.int acc), z]) ?_ ?_ _ _ _ ⟨rfl, p, 0, none, rfl, dg, hi, rfl, by rw [Nat.zero_mul]; decide, rfl⟩
    · rintro x xs δ S1 ⟨e1, r, acc, z, e2, h1, h2, h3, h4, e3⟩
      subst e1
      subst e3
      rcases r with _ | ⟨c, r⟩
      · cases e2
      obtain ⟨e4, e5⟩ := List.cons.inj e2
      subst e4
      subst e5
      have hc := h1.head
      have ab : acc < 2 ^ 140 := by
        have : acc ≤ acc * 10 ^ (c :: r).length := Nat.le_mul_of_pos_right _ (Nat.pow_pos (by decide))
        have : (10 : Nat) ^ 40 < 2 ^ 140 := by decide
        omega
      repeat walk_at "2"
      refine o_mul (fits_of (a := 140) (b := 4) (by simpa using ab) (by decide) (by decide)) ?_
      repeat walk_at "2"
      refine p_meth ?_
      repeat walk_at "2"
      refine ⟨rfl, ?_⟩
      repeat walk_at "2"
      refine ⟨_, _, by unfold pureM; rw [ix_figs hc]; rfl, ?_⟩
      repeat walk_at "2"
      refine ⟨rfl, r, acc * 10 + (c - 48), some (.str ⟨#[c]⟩), rfl, h1.tail, by simp at h2; omega, h3, ?_, ?_⟩
      · rw [List.length_cons, Nat.pow_succ] at h4
        have h5 : (acc + 1) * (10 ^ r.length * 10) ≤ 10 ^ 40 := by
          have hL : r.length + 1 ≤ 40 := by simpa using h2
          have e40 : (10 : Nat) ^ 40 = 10 ^ (40 - (r.length + 1)) * (10 ^ r.length * 10) := by
            rw [← Nat.pow_succ, ← Nat.pow_add]
            congr 1
            omega
          rw [e40] at h4 ⊢
          exact Nat.mul_le_mul_right _ (Nat.lt_of_mul_lt_mul_right h4)
        have : acc * 10 + (c - 48) < (acc + 1) * 10 := by omega
        calc (acc * 10 + (c - 48)) * 10 ^ r.length < (acc + 1) * 10 * 10 ^ r.length := Nat.mul_lt_mul_of_pos_right this (Nat.pow_pos (by decide))
          _ = (acc + 1) * (10 ^ r.length * 10) := by rw [Nat.mul_assoc, Nat.mul_comm 10]
          _ ≤ _ := h5
      · rw [Int.natCast_add, Int.natCast_mul]; rfl
    · rintro δ S1 ⟨e1, r, acc, z, e2, h1, h2, h3, h4, e3⟩
      subst e1
      subst e3
      rcases r with _ | ⟨c, r⟩
      · have h3 : acc = NumText.digitsVal p := h3
        subst h3
        repeat walk_at "2"
        refine o_eqS (x := mk p) (y := mk cs) hp.ok hf.ok ?_
        rw [mk_beq]
        repeat walk_at "2"
        unfold numV
        rw [hpp]
        refine ⟨fun h => ?_, fun h => ?_⟩
        · have h := of_decide_eq_true h
          have h0 : ¬ cs.head? = some 45 := fun z => by
            have := hpp
            unfold plain at this
            rw [if_pos z] at this
            have l := congrArg List.length this
            rw [h, List.length_drop] at l
            have := hn.lo
            rw [hpp] at this
            rw [h] at this
            omega
          rw [if_neg h0]
          repeat walk_at "2"
          exact ⟨rfl, rfl⟩
        · have h := of_decide_eq_false h
          have h0 : cs.head? = some 45 := by
            by_cases z : cs.head? = some 45
            · exact z
            · have := hpp
              unfold plain at this
              rw [if_neg z] at this
              exact absurd this.symm h
          rw [if_pos h0]
          repeat walk_at "2"
          refine ⟨?_, rfl⟩
          rw [Int.zero_sub]
      · cases e2
theorem number_spec {cs : List Nat} (hf : Fine cs) (hl : cs.length ≤ 6000) (S : Sto) (hS : Sane S) (d : D) (hg : NumW cs → d = .int (numV cs)) (hb : ¬ NumW cs → d = .non) : m_number_of [.str (mk cs)] S = .ok d S := by
  have sl : 6001 ≤ sizeLine := by decide
  have zl : (mk cs).length ≤ sizeLine := by rw [mk_len]; omega
  have hp := hf.plain
  have pl := plain_len (cs := cs)
  have zp : (mk (plain cs)).length ≤ sizeLine := by rw [mk_len]; omega
  have hc : D.closed S.length d = true := by
    by_cases z : NumW cs
    · rw [hg z]; rfl
    · rw [hb z]; rfl
  refine m_defS hS hc ?_
  show (b_number_of [some (.str (mk cs)), none, none] S).post _ _ _ _
  unfold b_number_of
  repeat walk_at "2"
  refine p_lift (a := D.bl true) (by kernel_rfl) ?_
  walk_at "2"
  walk_at "2"
  walk_at "2"
  with_reducible refine s_seq ?_
  with_reducible refine s_asg ?_
  refine Res.post.mono (Q1 := fun d S1 => d = .str (mk (plain cs)) ∧ S1 = S) ?_ ?_
  · repeat walk_at "2"
    refine p_meth ?_
    repeat walk_at "2"
    refine ⟨rfl, ?_⟩
    repeat walk_at "2"
    refine ⟨_, _, rfl, ?_⟩
    repeat walk_at "2"
    rw [starts_dash]
    refine ⟨fun h => ?_, fun h => ?_⟩
    · have h : cs.head? = some 45 := by simpa using h
      repeat walk_at "2"
      refine ⟨zl, ?_⟩
      rw [cut_tail]
      unfold plain
      rw [if_pos h]
      exact ⟨rfl, rfl⟩
    · have h : ¬ cs.head? = some 45 := by simpa using h
      repeat walk_at "2"
      unfold plain
      rw [if_neg h]
      exact ⟨rfl, rfl⟩
  rintro d1 S1 ⟨e1, e2⟩
  subst e1
  subst e2
  generalize hpp : plain cs = p at *
  walk_at "2"
  walk_at "2"
  walk_at "2"
  -- the lengths and the figures
  refine Res.post.mono (Q1 := fun k S2 => (k = true ↔ ¬ (1 ≤ p.length ∧ p.length ≤ 40 ∧ NumText.AllDigits p)) ∧ S2 = S1) ?_ ?_
  · have bad : ¬ (1 ≤ p.length ∧ p.length ≤ 40 ∧ NumText.AllDigits p) → (true = true ↔ ¬ (1 ≤ p.length ∧ p.length ≤ 40 ∧ NumText.AllDigits p)) ∧ S1 = S1 := fun z => ⟨⟨fun _ => z, fun _ => rfl⟩, rfl⟩
    have good : (1 ≤ p.length ∧ p.length ≤ 40 ∧ NumText.AllDigits p) → (false = true ↔ ¬ (1 ≤ p.length ∧ p.length ≤ 40 ∧ NumText.AllDigits p)) ∧ S1 = S1 := fun z => ⟨⟨fun y => (nomatch y), fun y => absurd z y⟩, rfl⟩
    repeat walk_at "2"
    refine o_len zp ?_
    rw [mk_len]
    repeat walk_at "2"
    refine ⟨fun h1 => ?_, fun h1 => ?_⟩
    · have h1 := of_decide_eq_true h1
      repeat walk_at "2"
      refine ⟨fun h2 => ?_, fun h2 => ?_⟩
      · have h2 : ¬ (p.length : Int) ≤ 40 := by simpa using h2
        exact bad fun z => by omega
      · have h2 : (p.length : Int) ≤ 40 := by simpa using h2
        repeat walk_at "2"
        refine .inr (.inr ⟨_, rfl, ?_⟩)
        rw [walk_mk]
        dsimp only [wipeD, List.set_cons_zero, List.set_cons_succ]
        refine Res.post.of_eq (lcL_map (f := fun x => match x with | .str s => .bl (decide (s.cps.getD 0 0 ∈ ("0123456789" : Str).cps.toList)) | d => d) (by exact Nat.le_of_ble_eq_true rfl) fun x hx => ?_) ?_
        · obtain ⟨c, hc, rfl⟩ := sgs_mem hx
          refine exact_of ?_
          repeat walk_at "2"
          refine o_in1 ?_
          exact ⟨rfl, rfl⟩
        have em : (sgs p).map (fun x => match x with | .str s => D.bl (decide (s.cps.getD 0 0 ∈ ("0123456789" : Str).cps.toList)) | d => d) = (p.map fun c => decide (c ∈ ("0123456789" : Str).cps.toList)).map D.bl := by
          unfold sgs
          rw [List.map_map, List.map_map]
          rfl
        rw [em]
        refine ⟨by rw [List.length_map, List.length_map]; omega, ?_⟩
        repeat walk_at "2"
        refine o_all ?_
        repeat walk_at "2"
        rw [List.all_map]
        by_cases hd : NumText.AllDigits p
        · rw [show p.all (id ∘ fun c => decide (c ∈ ("0123456789" : Str).cps.toList)) = true from List.all_eq_true.mpr fun c hc => decide_eq_true ((in_figs c).mpr (hd c hc))]
          exact good ⟨by omega, by omega, hd⟩
        · rw [show p.all (id ∘ fun c => decide (c ∈ ("0123456789" : Str).cps.toList)) = false from by
            rw [← Bool.not_eq_true, List.all_eq_true]
            exact fun z => hd fun c hc => (in_figs c).mp (of_decide_eq_true (z c hc))]
          exact bad fun z => hd z.2.2
    · have h1 : ¬ (1 : Int) ≤ p.length := of_decide_eq_false h1
      repeat walk_at "2"
      exact bad fun z => by omega
  rintro k S2 ⟨hk, e⟩
  subst e
  refine ⟨fun h => ?_, fun h => ?_⟩
  · rw [hb fun z => hk.mp h ⟨by have := z.lo; rwa [hpp] at this, by have := z.hi; rwa [hpp] at this, by have := z.dig; rwa [hpp] at this⟩]
    repeat walk_at "2"
    exact ⟨rfl, rfl⟩
  have hok : 1 ≤ p.length ∧ p.length ≤ 40 ∧ NumText.AllDigits p := by
    by_cases z : 1 ≤ p.length ∧ p.length ≤ 40 ∧ NumText.AllDigits p
    · exact z
    · rw [hk.mpr z] at h; cases h
  obtain ⟨k1, k2, hd⟩ := hok
  obtain ⟨a, ha, e⟩ := head_at k1
  have ha1 : a < 128 := hp a (List.mem_of_mem_head? ha)
  walk_at "2"
  walk_at "2"
  walk_at "2"
  refine Res.post.mono (Q1 := fun k S1 => (k = true ↔ ¬ NumW cs) ∧ S1 = S2) ?_ ?_
  · have bad : ¬ NumW cs → (true = true ↔ ¬ NumW cs) ∧ S2 = S2 := fun z => ⟨⟨fun _ => z, fun _ => rfl⟩, rfl⟩
    have good : NumW cs → (false = true ↔ ¬ NumW cs) ∧ S2 = S2 := fun z => ⟨⟨fun y => (nomatch y), fun y => absurd z y⟩, rfl⟩
    repeat walk_at "2"
    refine o_ixS zp e ?_
    repeat walk_at "2"
    rw [nought]
    refine o_eqS (x := mk [a]) (y := mk [48]) (Fine.ok fun c h => by rw [List.mem_singleton.mp h]; exact ha1) (Fine.ok fun c h => by rw [List.mem_singleton.mp h]; decide) ?_
    rw [mk_beq]
    repeat walk_at "2"
    refine ⟨fun h3 => ?_, fun h3 => ?_⟩
    · have h3 : a = 48 := by simpa using h3
      repeat walk_at "2"
      refine o_neS (x := mk cs) (y := mk [48]) hf.ok (Fine.ok fun c h => by rw [List.mem_singleton.mp h]; decide) ?_
      rw [mk_beq]
      repeat walk_at "2"
      by_cases h4 : cs = [48]
      · rw [decide_eq_true h4]
        exact good ⟨by rw [hpp]; omega, by rw [hpp]; omega, by rw [hpp]; exact hd, fun z => z.2 h4⟩
      · rw [decide_eq_false h4]
        exact bad fun z => z.nz ⟨by rw [hpp, ha, h3], h4⟩
    · have h3 : a ≠ 48 := by simpa using h3
      exact good ⟨by rw [hpp]; omega, by rw [hpp]; omega, by rw [hpp]; exact hd, fun z => by
        have := z.1
        rw [hpp, ha] at this
        exact h3 (Option.some.inj this)⟩
  rintro k S3 ⟨hk, e⟩
  subst e
  refine ⟨fun h => ?_, fun h => ?_⟩
  · rw [hb (hk.mp h)]
    repeat walk_at "2"
    exact ⟨rfl, rfl⟩
  have hn : NumW cs := by
    by_cases z : NumW cs
    · exact z
    · rw [hk.mpr z] at h; cases h
  rw [hg hn]
  repeat walk_at "2"
  have cl : cs.length ≤ p.length + 1 := by
    rw [← hpp]
    unfold plain
    split
    · rw [List.length_drop]; omega
    · omega
  refine o_int (n := numV cs) ?_ (by rw [mk_len]; omega) ⟨rfl, rfl⟩
  unfold numV
  rw [hpp]
  have pn : p ≠ [] := by intro z; rw [z] at k1; simp at k1
  by_cases h0 : cs.head? = some 45
  · rw [if_pos h0]
    have e1 : (mk cs).cps.toList = 45 :: p := by
      rw [mk_list, ← hpp]
      unfold plain
      rw [if_pos h0]
      rcases cs with _ | ⟨b, r⟩
      · cases h0
      · have : b = 45 := by simpa using h0
        rw [this]; rfl
    exact PySem.intText_neg e1 hd pn (by rw [mk_len]; omega)
  · rw [if_neg h0]
    have e1 : (mk cs).cps.toList = p := by
      rw [mk_list, ← hpp]
      unfold plain
      rw [if_neg h0]
    have := PySem.intText_digits (x := mk cs) (by rw [e1]; exact hd) (by rw [e1]; exact pn) (by rw [mk_len]; omega)
    rwa [e1] at this
end DL

set_option Elab.async false
set_option linter.all false
set_option maxRecDepth 100000
set_option maxHeartbeats 4000000
set_option autoImplicit false
/-! law k01, plain part: names, rows of words. -/
namespace DL
open PySem L2
local macro_rules | `(tactic| walk_at "1") => `(tactic| with_reducible first
  | refine s_seq ?_ | refine s_asg ?_ | refine s_ret ?_ | refine s_if ?_ | refine s_expr ?_ | refine s_next ?_ | refine s_brk ?_ | refine s_cont ?_ | refine s_for ?_ | refine s_while ?_
  | refine p_c ?_ | refine p_bin ?_ | refine p_as ?_ | refine p_cons ?_ | refine p_nil ?_ | refine p_un ?_ | refine p_call ?_ | refine p_if ?_ | refine p_own ?_
  | refine p_keep ?_ | refine p_tru ?_ | refine p_and ?_ | refine p_or ?_ | refine p_not ?_ | refine p_val ?_ | refine p_rand ?_ | refine p_ror ?_ | refine p_rnot ?_ | refine p_chain ?_
  | refine o_add ?_ | refine o_sub ?_ | refine o_lt ?_ | refine o_le ?_ | refine o_gt ?_ | refine o_ge ?_ | refine o_neg ?_ | refine o_eqI ?_ | refine o_neI ?_ | refine o_abs ?_ | refine o_tru ?_ | refine p_true ?_ | refine p_false ?_
  | refine s_par ?_ | refine p_yes ?_ | refine p_lc ?_ | refine p_seq ?_ | refine s_gnil ?_ | refine s_gcons ?_ | refine p_lc_nil ?_ | refine p_lc_cons ?_ | refine p_cutS ?_ | refine p_onone ?_ | refine p_osome ?_)
local macro_rules | `(tactic| walk_at "2") => `(tactic| first
  | walk_at "1"
  | (with_reducible refine p_var2 ?_)
  | ((with_reducible refine s_name ?_ ?_); (· exact Nat.le_of_ble_eq_true rfl); dsimp only [List.set_cons_zero, List.set_cons_succ])
  | (with_reducible refine p_tup ?_) | ((with_reducible refine ⟨?_, ?_⟩); (· exact Nat.le_of_ble_eq_true rfl))
  | ((with_reducible refine p_ex2 (x := ?_) (y := ?_) ?_ ?_); rotate_left; rotate_left; (· rfl); refine ⟨?_, ?_, ?_⟩; (· exact Nat.le_of_ble_eq_true rfl); (· exact Nat.le_of_ble_eq_true rfl); dsimp only [List.set_cons_zero, List.set_cons_succ])
  | ((with_reducible refine p_isT ?_ ?_); (· rfl)) | ((with_reducible refine p_isF ?_ ?_); (· rfl))
  | ((with_reducible refine p_ex (x := ?_) ?_ ?_); rotate_left; (· rfl)))



abbrev abc : Str := "abcdefghijklmnopqrstuvwxyz"
def inAbc (c : Nat) : Bool := decide (c ∈ abc.cps.toList)
def nameB (cs : List Nat) : Bool := decide (1 ≤ cs.length) && (decide (cs.length ≤ 8) && cs.all inAbc)
theorem is_name_spec {cs : List Nat} (hl : cs.length ≤ 6000) (S : Sto) (hS : Sane S) : m_is_name [.str (mk cs)] S = .ok (.bl (nameB cs)) S := by
  have sl : 6001 ≤ sizeLine := by decide
  have zl : (mk cs).length ≤ sizeLine := by rw [mk_len]; omega
  refine m_defS hS rfl ?_
  show (b_is_name [some (.str (mk cs)), none] S).post _ _ _ _
  unfold b_is_name
  repeat walk_at "2"
  refine p_lift (a := D.bl true) (by kernel_rfl) ?_
  repeat walk_at "2"
  refine o_len zl ?_
  rw [mk_len]
  repeat walk_at "2"
  refine ⟨fun h1 => ?_, fun h1 => ?_⟩
  · have h1 := of_decide_eq_true h1
    repeat walk_at "2"
    refine ⟨fun h2 => ?_, fun h2 => ?_⟩
    · have h2 : ¬ (cs.length : Int) ≤ 8 := by simpa using h2
      repeat walk_at "2"
      refine ⟨?_, rfl⟩
      unfold nameB
      rw [decide_eq_false (show ¬ cs.length ≤ 8 by omega)]
      simp
    · have h2 : (cs.length : Int) ≤ 8 := by simpa using h2
      repeat walk_at "2"
      refine .inr (.inr ⟨_, rfl, ?_⟩)
      rw [walk_mk]
      dsimp only [wipeD, List.set_cons_zero, List.set_cons_succ]
      refine Res.post.of_eq (lcL_map (f := fun x => match x with | .str s => .bl (decide (s.cps.getD 0 0 ∈ abc.cps.toList)) | d => d) (by exact Nat.le_of_ble_eq_true rfl) fun x hx => ?_) ?_
      · obtain ⟨c, hc, rfl⟩ := sgs_mem hx
        refine exact_of ?_
        repeat walk_at "2"
        refine o_in1 ?_
        exact ⟨rfl, rfl⟩
      have em : (sgs cs).map (fun x => match x with | .str s => D.bl (decide (s.cps.getD 0 0 ∈ abc.cps.toList)) | d => d) = (cs.map inAbc).map D.bl := by
        unfold sgs
        rw [List.map_map, List.map_map]
        rfl
      rw [em]
      refine ⟨by rw [List.length_map, List.length_map]; omega, ?_⟩
      repeat walk_at "2"
      refine o_all ?_
      rw [List.all_map]
      refine ⟨?_, rfl⟩
      unfold nameB
      rw [decide_eq_true (show 1 ≤ cs.length by omega), decide_eq_true (show cs.length ≤ 8 by omega)]
      rfl
  · have h1 : ¬ (1 : Int) ≤ cs.length := of_decide_eq_false h1
    repeat walk_at "2"
    refine ⟨?_, rfl⟩
    unfold nameB
    rw [decide_eq_false (show ¬ 1 ≤ cs.length by omega)]
    rfl
/-! rows of words -/
theorem part_sub (y : Str) : ∀ {xs : List Str} {p : Str}, p ∈ xs → ∀ c ∈ p.cps.toList, c ∈ (Str.join y xs).cps.toList
  | [x], p, h, c, hc => by
    rw [List.mem_singleton.mp h] at hc
    exact hc
  | x :: z :: r, p, h, c, hc => by
    show c ∈ (x ++ y ++ Str.join y (z :: r)).cps.toList
    have e : (x ++ y ++ Str.join y (z :: r)).cps.toList = x.cps.toList ++ y.cps.toList ++ (Str.join y (z :: r)).cps.toList := by
      show ((x.cps ++ y.cps) ++ (Str.join y (z :: r)).cps).toList = _
      simp
    rw [e, List.mem_append, List.mem_append]
    rcases List.mem_cons.mp h with h | h
    · exact .inl (.inl (h ▸ hc))
    · exact .inr (part_sub y h c hc)
theorem parts_ok {cs : List Nat} (hf : Fine cs) (y : Str) : ∀ x ∈ Txt.split (mk cs) y, PyData.strOk x = true := by
  intro x hx
  have h := part_sub y hx
  rw [StrLaws.join_split, mk_list] at h
  rw [mk_of x]
  exact Fine.ok fun c hc => hf c (h c hc)
theorem flat_strs : ∀ xs : List Str, flatDs (xs.map .str) = some (xs.map V.str)
  | [] => rfl
  | x :: r => by unfold List.map flatDs flatD; rw [flat_strs r]
theorem o_inStrs {S : Sto} {x : Str} {xs : List Str} {Q : D → Sto → Prop} (h : Q (.bl (inV (.str x) (xs.map V.str))) S) : (Res.lift (gInQ S (.str x) (.lst (xs.map .str))) S).post Q := p_lift (by unfold gInQ flatD deref; dsimp only; rw [flat_strs]; rfl) h
theorem p_split {ro rf : RE} {δ : Sl} {S : Sto} {Q : D → Sto → Prop} (h : (ro δ S).post fun x S1 => (rf δ S1).post fun y S2 => ∃ a b, x = .str a ∧ y = .str b ∧ ((b.length == 0) = false ∧ a.length + 2 ≤ sizeLine) ∧ Q (.lst ((Txt.split a b).map .str)) S2) : (rSplit ro rf δ S).post Q :=
  p_bind (h.mono fun x S1 q => by
    obtain ⟨y, S2, e, a, b, e1, e2, e3, q'⟩ := q.ex
    subst e1
    refine p_bind ?_
    rw [e]
    subst e2
    exact p_lift (by unfold gSplit; dsimp only; rw [if_pos e3]) q')
def partsOf (cs : List Nat) : List Str := Txt.split (mk cs) " "
def rowD' (cs : List Nat) : D := if inV (.str "") ((partsOf cs).map V.str) then .non else .lst ((partsOf cs).map .str)
theorem closed_strs : ∀ {n : Nat} (xs : List Str), closedL n (xs.map .str) = true
  | _, [] => rfl
  | n, x :: r => by unfold List.map closedL; rw [closed_strs r]; rfl
theorem rowD'_closed {n : Nat} {cs : List Nat} : D.closed n (rowD' cs) = true := by
  unfold rowD'
  split
  · rfl
  · unfold D.closed; exact closed_strs _
theorem words_of_spec {cs : List Nat} (hl : cs.length ≤ 6000) (S : Sto) (hS : Sane S) : m_words_of [.str (mk cs)] S = .ok (rowD' cs) S := by
  have sl : 6010 ≤ sizeLine := by decide
  refine m_defS hS rowD'_closed ?_
  show (b_words_of [some (.str (mk cs)), none] S).post _ _ _ _
  unfold b_words_of
  repeat walk_at "2"
  refine p_lift (a := D.bl true) (by kernel_rfl) ?_
  repeat walk_at "2"
  with_reducible refine p_split ?_
  repeat walk_at "2"
  refine ⟨_, _, rfl, rfl, ⟨by kernel_rfl, by rw [mk_len]; omega⟩, ?_⟩
  repeat walk_at "2"
  refine o_inStrs ?_
  repeat walk_at "2"
  unfold rowD' partsOf
  refine ⟨fun h => ?_, fun h => ?_⟩
  · rw [if_pos h]
    repeat walk_at "2"
    exact ⟨rfl, rfl⟩
  · rw [if_neg (by rw [h]; simp)]
    repeat walk_at "2"
    exact ⟨rfl, rfl⟩
end DL

set_option Elab.async false
set_option linter.all false
set_option maxRecDepth 100000
set_option maxHeartbeats 4000000
set_option autoImplicit false
/-! law k01, plain part: a word is told right. -/
namespace DL
open PySem L2
local macro_rules | `(tactic| walk_at "1") => `(tactic| with_reducible first
  | refine s_seq ?_ | refine s_asg ?_ | refine s_ret ?_ | refine s_if ?_ | refine s_expr ?_ | refine s_next ?_ | refine s_brk ?_ | refine s_cont ?_ | refine s_for ?_ | refine s_while ?_
  | refine p_c ?_ | refine p_bin ?_ | refine p_as ?_ | refine p_cons ?_ | refine p_nil ?_ | refine p_un ?_ | refine p_call ?_ | refine p_if ?_ | refine p_own ?_
  | refine p_keep ?_ | refine p_tru ?_ | refine p_and ?_ | refine p_or ?_ | refine p_not ?_ | refine p_val ?_ | refine p_rand ?_ | refine p_ror ?_ | refine p_rnot ?_ | refine p_chain ?_
  | refine o_add ?_ | refine o_sub ?_ | refine o_lt ?_ | refine o_le ?_ | refine o_gt ?_ | refine o_ge ?_ | refine o_neg ?_ | refine o_eqI ?_ | refine o_neI ?_ | refine o_abs ?_ | refine o_tru ?_ | refine p_true ?_ | refine p_false ?_
  | refine s_par ?_ | refine p_yes ?_ | refine p_lc ?_ | refine p_seq ?_ | refine s_gnil ?_ | refine s_gcons ?_ | refine p_lc_nil ?_ | refine p_lc_cons ?_ | refine p_cutS ?_ | refine p_onone ?_ | refine p_osome ?_)
local macro_rules | `(tactic| walk_at "2") => `(tactic| first
  | walk_at "1"
  | (with_reducible refine p_var2 ?_)
  | ((with_reducible refine s_name ?_ ?_); (· exact Nat.le_of_ble_eq_true rfl); dsimp only [List.set_cons_zero, List.set_cons_succ])
  | (with_reducible refine p_tup ?_) | ((with_reducible refine ⟨?_, ?_⟩); (· exact Nat.le_of_ble_eq_true rfl))
  | ((with_reducible refine p_ex2 (x := ?_) (y := ?_) ?_ ?_); rotate_left; rotate_left; (· rfl); refine ⟨?_, ?_, ?_⟩; (· exact Nat.le_of_ble_eq_true rfl); (· exact Nat.le_of_ble_eq_true rfl); dsimp only [List.set_cons_zero, List.set_cons_succ])
  | ((with_reducible refine p_isT ?_ ?_); (· rfl)) | ((with_reducible refine p_isF ?_ ?_); (· rfl))
  | ((with_reducible refine p_ex (x := ?_) ?_ ?_); rotate_left; (· rfl)))



theorem o_neSame {S : Sto} {d : D} {Q : D → Sto → Prop} (h : d = .non ∨ ∃ i, d = .int i) (q : Q (.bl false) S) : (Res.lift (gNe S d d) S).post Q := by
  rcases h with rfl | ⟨i, rfl⟩
  · exact o_neg_ (u := .none) (v := .none) rfl rfl shaped_non shaped_non (by simpa [PyData.eqv] using q)
  · exact o_neI (by rw [beq_self_eq_true]; exact q)
def shB (b : Bool) : Str := (PyData.bool b).shown
theorem shB_ok (b : Bool) : PyData.strOk (shB b) = true := by cases b <;> kernel_rfl
theorem o_reprB {S : Sto} {b : Bool} {Q : D → Sto → Prop} (q : Q (.str (shB b)) S) : (Res.lift (gRepr S [.bl b]) S).post Q := p_lift (by cases b <;> kernel_rfl) q
theorem o_list {S : Sto} {cs : List Nat} {Q : D → Sto → Prop} (h : cs.length ≤ sizeLine) (q : Q (.lst (sgs cs)) S) : (Res.lift (gList S [.str (mk cs)]) S).post Q :=
  p_lift (by
    unfold gList deref
    dsimp only
    rw [if_pos (show (mk cs).cps.size ≤ sizeLine by have := mk_len cs; show (mk cs).length ≤ _; omega), walk_mk]) q
theorem letters_all (cs : List Nat) : ((cs.filter inAbc).map sg = cs.map sg) ↔ cs.all inAbc = true := by
  constructor
  · intro h
    have l := congrArg List.length h
    rw [List.length_map, List.length_map, List.length_filter_eq_length_iff] at l
    exact List.all_eq_true.mpr l
  · intro h
    rw [List.filter_eq_self.mpr (List.all_eq_true.mp h)]
theorem o_eqRow {S : Sto} {cs : List Nat} {Q : D → Sto → Prop} (hf : Fine cs) (q : Q (.bl true) S) : (Res.lift (gEq S (rowD' cs) (rowD' cs)) S).post Q := by
  unfold rowD'
  split
  · exact o_eqg (u := .none) (v := .none) rfl rfl shaped_non shaped_non (by simpa [PyData.eqv] using q)
  · exact o_eqStrs (parts_ok hf _) (parts_ok hf _) (by rw [decide_eq_true rfl]; exact q)
theorem word_right {cs : List Nat} (hf : Fine cs) (hl : cs.length ≤ 6000) (S : Sto) (hS : Sane S) : m__law_word_right [.str (mk cs)] S = .ok (.bl true) S := by
  have sl : 6010 ≤ sizeLine := by decide
  have zl : (mk cs).length ≤ sizeLine := by rw [mk_len]; omega
  obtain ⟨d, hd, hg, hb⟩ : ∃ d : D, (d = .non ∨ ∃ i, d = .int i) ∧ (NumW cs → d = .int (numV cs)) ∧ (¬ NumW cs → d = .non) := by
    by_cases z : NumW cs
    · exact ⟨.int (numV cs), .inr ⟨_, rfl⟩, fun _ => rfl, fun y => absurd z y⟩
    · exact ⟨.non, .inl rfl, fun y => absurd y z, fun _ => rfl⟩
  have hfl : Fine (cs.filter inAbc) := fun c hc => hf c (List.mem_filter.mp hc).1
  refine m_defS hS rfl ?_
  show (b__law_word_right [some (.str (mk cs)), none, none, none, none, none, none] S).post _ _ _ _
  unfold b__law_word_right
  repeat walk_at "2"
  refine Res.post.of_eq (figures_spec hf hl S hS d hg hb) ?_
  repeat walk_at "2"
  refine Res.post.of_eq (number_spec hf hl S hS d hg hb) ?_
  clear hg hb
  repeat walk_at "2"
  refine .inr (.inr ⟨_, rfl, ?_⟩)
  rw [walk_mk]
  dsimp only [wipeD, List.set_cons_zero, List.set_cons_succ]
  refine Res.post.of_eq (lcL_filter (p := fun x => match x with | .str s => inAbc (s.cps.getD 0 0) | _ => false) (by exact Nat.le_of_ble_eq_true rfl) (fun x hx => ?_) (fun x hx => ?_)) ?_
  · obtain ⟨c, hc, rfl⟩ := sgs_mem hx
    refine exact_of ?_
    repeat walk_at "2"
    refine o_in1 ?_
    repeat walk_at "2"
    exact ⟨rfl, rfl⟩
  · obtain ⟨c, hc, rfl⟩ := sgs_mem hx
    rfl
  rw [sgs_filter inAbc _ (fun c => rfl)]
  have fl : (sgs (cs.filter inAbc)).length ≤ sizeLine := by
    unfold sgs
    rw [List.length_map]
    have := List.length_filter_le inAbc cs
    omega
  refine ⟨fl, ?_⟩
  repeat walk_at "2"
  refine p_lift (a := D.bl false) (by rcases hd with rfl | ⟨i, rfl⟩ <;> kernel_rfl) ?_
  repeat walk_at "2"
  refine o_neSame hd ?_
  repeat walk_at "2"
  refine Res.post.of_eq (is_name_spec hl S hS) ?_
  repeat walk_at "2"
  refine o_reprB ?_
  walk_at "2"
  walk_at "2"
  refine Res.post.mono (Q1 := fun d S1 => d = .bl (nameB cs) ∧ S1 = S) ?_ ?_
  · repeat walk_at "2"
    refine o_list (by omega) ?_
    repeat walk_at "2"
    rw [sgs_eq, sgs_eq]
    refine o_eqStrs (sg_ok hfl) (sg_ok hf) ?_
    repeat walk_at "2"
    refine ⟨fun h => ?_, fun h => ?_⟩
    · have h := (letters_all cs).mp (of_decide_eq_true h)
      repeat walk_at "2"
      refine o_len zl ?_
      rw [mk_len]
      repeat walk_at "2"
      refine ⟨fun h1 => ?_, fun h1 => ?_⟩
      · have h1 := of_decide_eq_true h1
        repeat walk_at "2"
        refine ⟨?_, rfl⟩
        unfold nameB
        rw [decide_eq_true (show 1 ≤ cs.length by omega), h, Bool.and_true, Bool.true_and]
        exact congrArg D.bl (decide_eq_decide.mpr (by omega))
      · have h1 : ¬ (1 : Int) ≤ cs.length := of_decide_eq_false h1
        repeat walk_at "2"
        refine ⟨?_, rfl⟩
        unfold nameB
        rw [decide_eq_false (show ¬ 1 ≤ cs.length by omega)]
        rfl
    · have h1 := of_decide_eq_false h
      rw [h]
      refine ⟨?_, rfl⟩
      have h2 : cs.all inAbc = false := by
        rw [← Bool.not_eq_true]
        exact fun z => h1 ((letters_all cs).mpr z)
      unfold nameB
      rw [h2, Bool.and_false, Bool.and_false]
  rintro d1 S1 ⟨e1, e2⟩
  subst e1
  subst e2
  repeat walk_at "2"
  refine o_reprB ?_
  repeat walk_at "2"
  refine o_neS (shB_ok _) (shB_ok _) ?_
  rw [beq_self_eq_true]
  repeat walk_at "2"
  with_reducible refine p_split ?_
  repeat walk_at "2"
  refine ⟨_, _, rfl, rfl, ⟨by kernel_rfl, by rw [mk_len]; omega⟩, ?_⟩
  repeat walk_at "2"
  refine Res.post.of_eq (words_of_spec hl S1 hS) ?_
  walk_at "2"
  walk_at "2"
  walk_at "2"
  walk_at "2"
  walk_at "2"
  walk_at "2"
  refine Res.post.mono (Q1 := fun d S2 => d = rowD' cs ∧ S2 = S1) ?_ ?_
  · repeat walk_at "2"
    refine o_inStrs ?_
    repeat walk_at "2"
    unfold rowD' partsOf
    refine ⟨fun h => ?_, fun h => ?_⟩
    · rw [if_pos h]
      repeat walk_at "2"
      exact ⟨rfl, rfl⟩
    · rw [if_neg (by rw [h]; simp)]
      repeat walk_at "2"
      exact ⟨rfl, rfl⟩
  rintro d1 S2 ⟨e1, e2⟩
  subst e1
  subst e2
  refine o_eqRow hf ?_
  repeat walk_at "2"
  cases hr : inV (.str "") ((partsOf cs).map V.str) with
  | true =>
    have er : rowD' cs = .non := by unfold rowD'; rw [if_pos hr]
    rw [er]
    refine p_lift (a := D.bl true) rfl ?_
    repeat walk_at "2"
    exact ⟨rfl, rfl⟩
  | false =>
    have er : rowD' cs = .lst ((partsOf cs).map .str) := by unfold rowD'; rw [if_neg (by rw [hr]; simp)]
    rw [er]
    refine p_lift (a := D.bl false) rfl ?_
    repeat walk_at "2"
    refine p_lift (a := D.bl true) (by kernel_rfl) ?_
    exact ⟨rfl, rfl⟩
end DL

set_option Elab.async false
set_option linter.all false
set_option maxRecDepth 100000
set_option maxHeartbeats 4000000
set_option autoImplicit false
/-! law k01, plain part: things that are none. -/
namespace DL
open PySem L2
local macro_rules | `(tactic| walk_at "1") => `(tactic| with_reducible first
  | refine s_seq ?_ | refine s_asg ?_ | refine s_ret ?_ | refine s_if ?_ | refine s_expr ?_ | refine s_next ?_ | refine s_brk ?_ | refine s_cont ?_ | refine s_for ?_ | refine s_while ?_
  | refine p_c ?_ | refine p_bin ?_ | refine p_as ?_ | refine p_cons ?_ | refine p_nil ?_ | refine p_un ?_ | refine p_call ?_ | refine p_if ?_ | refine p_own ?_
  | refine p_keep ?_ | refine p_tru ?_ | refine p_and ?_ | refine p_or ?_ | refine p_not ?_ | refine p_val ?_ | refine p_rand ?_ | refine p_ror ?_ | refine p_rnot ?_ | refine p_chain ?_
  | refine o_add ?_ | refine o_sub ?_ | refine o_lt ?_ | refine o_le ?_ | refine o_gt ?_ | refine o_ge ?_ | refine o_neg ?_ | refine o_eqI ?_ | refine o_neI ?_ | refine o_abs ?_ | refine o_tru ?_ | refine p_true ?_ | refine p_false ?_
  | refine s_par ?_ | refine p_yes ?_ | refine p_lc ?_ | refine p_seq ?_ | refine s_gnil ?_ | refine s_gcons ?_ | refine p_lc_nil ?_ | refine p_lc_cons ?_ | refine p_cutS ?_ | refine p_onone ?_ | refine p_osome ?_)
local macro_rules | `(tactic| walk_at "2") => `(tactic| first
  | walk_at "1"
  | (with_reducible refine p_var2 ?_)
  | ((with_reducible refine s_name ?_ ?_); (· exact Nat.le_of_ble_eq_true rfl); dsimp only [List.set_cons_zero, List.set_cons_succ])
  | (with_reducible refine p_tup ?_) | ((with_reducible refine ⟨?_, ?_⟩); (· exact Nat.le_of_ble_eq_true rfl))
  | ((with_reducible refine p_ex2 (x := ?_) (y := ?_) ?_ ?_); rotate_left; rotate_left; (· rfl); refine ⟨?_, ?_, ?_⟩; (· exact Nat.le_of_ble_eq_true rfl); (· exact Nat.le_of_ble_eq_true rfl); dsimp only [List.set_cons_zero, List.set_cons_succ])
  | ((with_reducible refine p_isT ?_ ?_); (· rfl)) | ((with_reducible refine p_isF ?_ ?_); (· rfl))
  | ((with_reducible refine p_ex (x := ?_) ?_ ?_); rotate_left; (· rfl)))



section
variable {S : Sto} {d : D} (hS : Sane S)
include hS
theorem num_odd (h : gIsi S [d, .ty "str"] = some (.bl false)) : m_number_of [d] S = .ok .non S := by
  refine m_defS hS rfl ?_
  show (b_number_of [some d, none, none] S).post _ _ _ _
  unfold b_number_of
  repeat walk_at "2"
  refine p_lift h ?_
  repeat walk_at "2"
  exact ⟨rfl, rfl⟩
theorem words_odd (h : gIsi S [d, .ty "str"] = some (.bl false)) : m_words_of [d] S = .ok .non S := by
  refine m_defS hS rfl ?_
  show (b_words_of [some d, none] S).post _ _ _ _
  unfold b_words_of
  repeat walk_at "2"
  refine p_lift h ?_
  repeat walk_at "2"
  exact ⟨rfl, rfl⟩
theorem name_odd (h : gIsi S [d, .ty "str"] = some (.bl false)) : m_is_name [d] S = .ok (.bl false) S := by
  refine m_defS hS rfl ?_
  show (b_is_name [some d, none] S).post _ _ _ _
  unfold b_is_name
  repeat walk_at "2"
  refine p_lift h ?_
  repeat walk_at "2"
  exact ⟨rfl, rfl⟩
theorem whole_odd {a b : Bool} (h : gIsi S [d, .ty "int"] = some (.bl a)) (g : gIsi S [d, .ty "bool"] = some (.bl b)) : m_is_whole [d] S = .ok (.bl (a && !b)) S := by
  refine m_defS hS rfl ?_
  show (b_is_whole [some d] S).post _ _ _ _
  unfold b_is_whole
  repeat walk_at "2"
  refine p_lift h ?_
  repeat walk_at "2"
  cases a with
  | true =>
    repeat walk_at "2"
    refine p_lift g ?_
    repeat walk_at "2"
    exact ⟨rfl, rfl⟩
  | false =>
    repeat walk_at "2"
    exact ⟨rfl, rfl⟩
theorem among_odd {lo hi : Int} (h : m_is_whole [d] S = .ok (.bl false) S) : m_is_among [d, .int lo, .int hi] S = .ok (.bl false) S := by
  refine m_defS hS rfl ?_
  show (b_is_among [some d, some (.int lo), some (.int hi)] S).post _ _ _ _
  unfold b_is_among
  repeat walk_at "2"
  refine Res.post.of_eq h ?_
  repeat walk_at "2"
  exact ⟨rfl, rfl⟩
theorem among_int (i : Int) {lo hi : Int} : m_is_among [.int i, .int lo, .int hi] S = .ok (.bl (decide (lo ≤ i) && decide (i ≤ hi))) S := by
  refine m_defS hS rfl ?_
  show (b_is_among [some (.int i), some (.int lo), some (.int hi)] S).post _ _ _ _
  unfold b_is_among
  repeat walk_at "2"
  refine Res.post.of_eq (is_whole_int i S hS) ?_
  repeat walk_at "2"
  refine ⟨fun h => ?_, fun h => ?_⟩
  · rw [h]
    repeat walk_at "2"
    exact ⟨rfl, rfl⟩
  · rw [h]
    exact ⟨rfl, rfl⟩
theorem frac_odd (h : gIsi S [d, .ty "tuple"] = some (.bl false)) : m_is_fraction [d] S = .ok (.bl false) S := by
  refine m_defS hS rfl ?_
  show (b_is_fraction [some d] S).post _ _ _ _
  unfold b_is_fraction
  repeat walk_at "2"
  refine p_lift h ?_
  repeat walk_at "2"
  exact ⟨rfl, rfl⟩
theorem frac_len {xs : List D} (h : xs.length ≠ 2) : m_is_fraction [.tup xs] S = .ok (.bl false) S := by
  refine m_defS hS rfl ?_
  show (b_is_fraction [some (.tup xs)] S).post _ _ _ _
  unfold b_is_fraction
  repeat walk_at "2"
  refine p_lift (a := D.bl true) (by kernel_rfl) ?_
  repeat walk_at "2"
  refine p_lift (a := D.int xs.length) rfl ?_
  repeat walk_at "2"
  rw [beq_eq_false_iff_ne.mpr (show (xs.length : Int) ≠ 2 by omega)]
  repeat walk_at "2"
  exact ⟨rfl, rfl⟩
theorem frac_pair (x y : Int) : m_is_fraction [.tup [.int x, .int y]] S = .ok (.bl (decide (0 < y) && ((Int.gcd x y : Int) == 1))) S := by
  refine m_defS hS rfl ?_
  show (b_is_fraction [some (.tup [.int x, .int y])] S).post _ _ _ _
  unfold b_is_fraction
  repeat walk_at "2"
  refine p_lift (a := D.bl true) (by kernel_rfl) ?_
  repeat walk_at "2"
  refine p_lift (a := .int 2) rfl ?_
  repeat walk_at "2"
  refine o_ixT (d := .int x) rfl ?_
  repeat walk_at "2"
  refine Res.post.of_eq (is_whole_int x S hS) ?_
  repeat walk_at "2"
  refine o_ixT (d := .int y) rfl ?_
  repeat walk_at "2"
  refine Res.post.of_eq (is_whole_int y S hS) ?_
  repeat walk_at "2"
  refine o_ixT (d := .int y) rfl ?_
  repeat walk_at "2"
  refine ⟨fun h => ?_, fun h => ?_⟩
  · rw [h]
    repeat walk_at "2"
    refine o_ixT (d := .int x) rfl ?_
    repeat walk_at "2"
    refine o_ixT (d := .int y) rfl ?_
    repeat walk_at "2"
    refine Res.post.of_eq (gcd_spec x y S hS) ?_
    repeat walk_at "2"
    exact ⟨rfl, rfl⟩
  · rw [h]
    exact ⟨rfl, rfl⟩
theorem frac_true : m_is_fraction [.tup [.bl true, .int 1]] S = .ok (.bl false) S := by
  refine m_defS hS rfl ?_
  show (b_is_fraction [some (.tup [.bl true, .int 1])] S).post _ _ _ _
  unfold b_is_fraction
  repeat walk_at "2"
  refine p_lift (a := D.bl true) (by kernel_rfl) ?_
  repeat walk_at "2"
  refine p_lift (a := .int 2) rfl ?_
  repeat walk_at "2"
  refine o_ixT (d := .bl true) rfl ?_
  repeat walk_at "2"
  refine Res.post.of_eq (whole_odd (a := true) (b := true) hS (by kernel_rfl) (by kernel_rfl)) ?_
  repeat walk_at "2"
  exact ⟨rfl, rfl⟩
end
end DL

set_option Elab.async false
set_option linter.all false
set_option maxRecDepth 100000
set_option maxHeartbeats 4000000
set_option autoImplicit false
/-! law k01, plain part: the law. -/
namespace DL
open PySem L2
local macro_rules | `(tactic| walk_at "1") => `(tactic| with_reducible first
  | refine s_seq ?_ | refine s_asg ?_ | refine s_ret ?_ | refine s_if ?_ | refine s_expr ?_ | refine s_next ?_ | refine s_brk ?_ | refine s_cont ?_ | refine s_for ?_ | refine s_while ?_
  | refine p_c ?_ | refine p_bin ?_ | refine p_as ?_ | refine p_cons ?_ | refine p_nil ?_ | refine p_un ?_ | refine p_call ?_ | refine p_if ?_ | refine p_own ?_
  | refine p_keep ?_ | refine p_tru ?_ | refine p_and ?_ | refine p_or ?_ | refine p_not ?_ | refine p_val ?_ | refine p_rand ?_ | refine p_ror ?_ | refine p_rnot ?_ | refine p_chain ?_
  | refine o_add ?_ | refine o_sub ?_ | refine o_lt ?_ | refine o_le ?_ | refine o_gt ?_ | refine o_ge ?_ | refine o_neg ?_ | refine o_eqI ?_ | refine o_neI ?_ | refine o_abs ?_ | refine o_tru ?_ | refine p_true ?_ | refine p_false ?_
  | refine s_par ?_ | refine p_yes ?_ | refine p_lc ?_ | refine p_seq ?_ | refine s_gnil ?_ | refine s_gcons ?_ | refine p_lc_nil ?_ | refine p_lc_cons ?_ | refine p_onone ?_ | refine p_osome ?_)
local macro_rules | `(tactic| walk_at "2") => `(tactic| first
  | walk_at "1"
  | (with_reducible refine p_var2 ?_)
  | ((with_reducible refine s_name ?_ ?_); (· exact Nat.le_of_ble_eq_true rfl); dsimp only [List.set_cons_zero, List.set_cons_succ])
  | (with_reducible refine p_tup ?_) | ((with_reducible refine ⟨?_, ?_⟩); (· exact Nat.le_of_ble_eq_true rfl))
  | ((with_reducible refine p_ex2 (x := ?_) (y := ?_) ?_ ?_); rotate_left; rotate_left; (· rfl); refine ⟨?_, ?_, ?_⟩; (· exact Nat.le_of_ble_eq_true rfl); (· exact Nat.le_of_ble_eq_true rfl); dsimp only [List.set_cons_zero, List.set_cons_succ])
  | ((with_reducible refine p_isT ?_ ?_); (· rfl)) | ((with_reducible refine p_isF ?_ ?_); (· rfl))
  | ((with_reducible refine p_ex (x := ?_) ?_ ?_); rotate_left; (· rfl)))



theorem enum_ints : ∀ (n : Nat) (ns : List Int), ∀ x ∈ enumD n (ns.map .int), ∃ (k : Nat) (c : Int), k < n + ns.length ∧ x = .tup [.int k, .int c]
  | _, [], _, h => by cases h
  | n, a :: r, x, h => by
    have h : x ∈ D.tup [.int n, .int a] :: enumD (n + 1) (r.map .int) := h
    rcases List.mem_cons.mp h with h | h
    · exact ⟨n, a, by simp, h⟩
    · obtain ⟨k, c, e1, e2⟩ := enum_ints (n + 1) r x h
      exact ⟨k, c, by rw [List.length_cons]; omega, e2⟩
theorem cut20 (ns : List Int) : cutD (ns.map D.int) none (some 20) = (ns.take 20).map .int := by
  unfold cutD
  rw [List.length_map]
  have e : HT.sIx ns.length ns.length (some 20) = min 20 ns.length := HT.sIx_nat _ _ 20
  rw [e, HT.sIx_none, List.drop_zero, ← List.map_take, Nat.sub_zero]
  congr 1
  rcases Nat.le_total 20 ns.length with h | h
  · rw [Nat.min_eq_left h]
  · rw [Nat.min_eq_right h, List.take_length, List.take_of_length_le h]
theorem asInts_map : ∀ ns : List Int, asInts (ns.map .int) = some ns
  | [] => rfl
  | b :: r => by unfold List.map asInts; rw [asInts_map r]; rfl
theorem o_sum {S : Sto} {ns : List Int} {Q : D → Sto → Prop} (h : Q (.int ns.sum) S) : (Res.lift (gSum S [.lst (ns.map .int)]) S).post Q := p_lift (by unfold gSum deref; dsimp only; rw [asInts_map]; rfl) h
theorem num_text (n : Nat) : Str.ofString (toString ((n : Nat) : Int)) = mk (TL.numL n) := by
  have h : (Str.ofString (toString ((n : Nat) : Int))).cps.toList = TL.numL n := TL.tl_num n
  rw [← h]
  exact mk_of _
theorem num_fine (n : Nat) : Fine (TL.numL n) := fun c hc => by have := TL.numL_digits n c hc; omega
theorem glue_sgs : ∀ (cs : List Nat) (acc : Array Nat), (cs.map sg).foldl (fun acc p => acc ++ (Str.ofString "").cps ++ p.cps) acc = acc ++ cs.toArray
  | [], acc => by simp
  | c :: r, acc => by
    rw [List.map_cons, List.foldl_cons, glue_sgs r]
    have e : (Str.ofString "").cps = #[] := by kernel_rfl
    rw [e]
    simp [sg]
theorem join_sgs (cs : List Nat) : Txt.join "" (cs.map sg) = mk cs := by
  unfold Txt.join Builtin.Str.glued
  rcases cs with _ | ⟨c, r⟩
  · kernel_rfl
  · show (⟨((r.map sg).foldl (fun acc p => acc ++ (Str.ofString "").cps ++ p.cps) (sg c).cps)⟩ : Str) = _
    rw [glue_sgs]
    unfold mk sg
    simp
theorem asStrs_map : ∀ xs : List Str, asStrs (xs.map .str) = some xs
  | [] => rfl
  | b :: r => by unfold List.map asStrs; rw [asStrs_map r]; rfl
theorem pick4 {v : Int} (h0 : 0 ≤ v) (h1 : v < 4) : ∃ ss : List Nat, atI [D.str "0123456789", D.str "abcdefghijklmnopqrstuvwxyz", D.str "01-", D.str "Aaz_ -\n.1;\x7e\x40[\x60{/:"] v = some (.str (mk ss)) ∧ Fine ss ∧ 1 ≤ ss.length ∧ ss.length ≤ 26 := by
  have go : ∀ w : Str, (w.cps.toList.all fun c => decide (c < 128)) = true → Fine w.cps.toList := fun w h c hc => of_decide_eq_true (List.all_eq_true.mp h c hc)
  rcases (by omega : v = 0 ∨ v = 1 ∨ v = 2 ∨ v = 3) with e | e | e | e <;> subst e
  · exact ⟨_, by show some (D.str "0123456789") = _; rw [mk_of "0123456789"], go _ (by kernel_rfl), by decide +kernel, by decide +kernel⟩
  · exact ⟨_, by show some (D.str "abcdefghijklmnopqrstuvwxyz") = _; rw [mk_of "abcdefghijklmnopqrstuvwxyz"], go _ (by kernel_rfl), by decide +kernel, by decide +kernel⟩
  · exact ⟨_, by show some (D.str "01-") = _; rw [mk_of "01-"], go _ (by kernel_rfl), by decide +kernel, by decide +kernel⟩
  · exact ⟨_, by show some (D.str "Aaz_ -\n.1;\x7e\x40[\x60{/:") = _; rw [mk_of "Aaz_ -\n.1;\x7e\x40[\x60{/:"], go _ (by kernel_rfl), by decide +kernel, by decide +kernel⟩
end DL

set_option Elab.async false
set_option linter.all false
set_option maxRecDepth 100000
set_option maxHeartbeats 4000000
set_option autoImplicit false
/-! law k01, plain part: the law. -/
namespace DL
open PySem L2
local macro_rules | `(tactic| walk_at "1") => `(tactic| with_reducible first
  | refine s_seq ?_ | refine s_asg ?_ | refine s_ret ?_ | refine s_if ?_ | refine s_expr ?_ | refine s_next ?_ | refine s_brk ?_ | refine s_cont ?_ | refine s_for ?_ | refine s_while ?_
  | refine p_c ?_ | refine p_bin ?_ | refine p_as ?_ | refine p_cons ?_ | refine p_nil ?_ | refine p_un ?_ | refine p_call ?_ | refine p_if ?_ | refine p_own ?_
  | refine p_keep ?_ | refine p_tru ?_ | refine p_and ?_ | refine p_or ?_ | refine p_not ?_ | refine p_val ?_ | refine p_rand ?_ | refine p_ror ?_ | refine p_rnot ?_ | refine p_chain ?_
  | refine o_add ?_ | refine o_sub ?_ | refine o_lt ?_ | refine o_le ?_ | refine o_gt ?_ | refine o_ge ?_ | refine o_neg ?_ | refine o_eqI ?_ | refine o_neI ?_ | refine o_abs ?_ | refine o_tru ?_ | refine p_true ?_ | refine p_false ?_
  | refine s_par ?_ | refine p_yes ?_ | refine p_lc ?_ | refine p_seq ?_ | refine s_gnil ?_ | refine s_gcons ?_ | refine p_lc_nil ?_ | refine p_lc_cons ?_ | refine p_onone ?_ | refine p_osome ?_)
local macro_rules | `(tactic| walk_at "2") => `(tactic| first
  | walk_at "1"
  | (with_reducible refine p_var2 ?_)
  | ((with_reducible refine s_name ?_ ?_); (· exact Nat.le_of_ble_eq_true rfl); dsimp only [List.set_cons_zero, List.set_cons_succ])
  | (with_reducible refine p_tup ?_) | ((with_reducible refine ⟨?_, ?_⟩); (· exact Nat.le_of_ble_eq_true rfl))
  | ((with_reducible refine p_ex2 (x := ?_) (y := ?_) ?_ ?_); rotate_left; rotate_left; (· rfl); refine ⟨?_, ?_, ?_⟩; (· exact Nat.le_of_ble_eq_true rfl); (· exact Nat.le_of_ble_eq_true rfl); dsimp only [List.set_cons_zero, List.set_cons_succ])
  | ((with_reducible refine p_isT ?_ ?_); (· rfl)) | ((with_reducible refine p_isF ?_ ?_); (· rfl))
  | ((with_reducible refine p_ex (x := ?_) ?_ ?_); rotate_left; (· rfl)))




theorem o_join {S : Sto} {ws : List Nat} (h : ws.length ≤ 1000) : pureM gJoin S (.str "") [.lst (sgs ws)] = some (.str (mk ws), S) := by
  unfold pureM gJoin deref
  dsimp only
  rw [sgs_eq, asStrs_map]
  dsimp only
  have e : ((ws.map sg).map (·.length)).sum = ws.length := by
    rw [List.map_map]
    have : ∀ l : List Nat, (l.map ((·.length) ∘ sg)).sum = l.length := fun l => by
      induction l with
      | nil => rfl
      | cons a r ih => rw [List.map_cons, List.sum_cons, ih, List.length_cons]; show 1 + _ = _; omega
    exact this ws
  rw [e, if_pos (by rw [List.length_map]; show ws.length + ws.length * 0 ≤ _; omega), join_sgs]
  rfl
theorem app_mk (x : Str) (b : List Nat) : x ++ mk b = mk (x.cps.toList ++ b) := by
  show (⟨x.cps ++ (mk b).cps⟩ : Str) = _
  unfold mk
  simp
theorem o_addM {S : Sto} {x : Str} {b : List Nat} {Q : D → Sto → Prop} (e : x.length + b.length ≤ sizeLine) (q : Q (.str (mk (x.cps.toList ++ b))) S) : (Res.lift (gAdd S (.str x) (.str (mk b))) S).post Q := o_addS (by rw [mk_len]; exact e) (by rw [app_mk]; exact q)
def Good (x : D) : Prop := ∃ cs, x = .str (mk cs) ∧ Fine cs ∧ cs.length ≤ 6000
theorem good_app {x : Str} {b : List Nat} (hx : (x.cps.toList.all fun c => decide (c < 128)) = true) (h : x.cps.toList.length ≤ 100) (hb : Fine b) (hl : b.length ≤ 1000) : Good (.str (mk (x.cps.toList ++ b))) :=
  ⟨_, rfl, fun c hc => by
    rcases List.mem_append.mp hc with z | z
    · exact of_decide_eq_true (List.all_eq_true.mp hx c z)
    · exact hb c z, by rw [List.length_append]; omega⟩
theorem good_of (x : Str) (hx : (x.cps.toList.all fun c => decide (c < 128)) = true) (h : x.cps.toList.length ≤ 6000) : Good (.str x) := ⟨x.cps.toList, by rw [← mk_of], fun c hc => of_decide_eq_true (List.all_eq_true.mp hx c hc), h⟩
theorem words_loop {δ : Sl} {S : Sto} {o : Option D} (hS : Sane S) (hl : 7 < δ.length) {xs : List D} (hx : ∀ x ∈ xs, Good x) {N B C : Sl → Sto → Prop} {T : D → Sto → Prop} (h : ∀ o, N (δ.set 7 o) S) :
    (forL (gName 7) (sIf (bNot (bTru (rCall m__law_word_right (rCons (rVar 7) rNil)))) (sRet (rC (.bl false))) sNext) xs (δ.set 7 o) S).post N T B C := by
  refine s_forL (fun xs δ' S' => S' = S ∧ (∃ o, δ' = δ.set 7 o) ∧ ∀ x ∈ xs, Good x) ?_ ?_ _ _ _ ⟨rfl, ⟨_, rfl⟩, hx⟩
  · rintro x xs δ' S' ⟨rfl, ⟨o, rfl⟩, hx⟩
    have hg := hx x List.mem_cons_self
    obtain ⟨cs, rfl, hf, hl'⟩ := hg
    refine s_name (by rw [List.length_set]; exact hl) ?_
    rw [List.set_set]
    repeat walk_at "1"
    refine p_var (List.getElem?_set_self hl) ?_
    repeat walk_at "1"
    refine Res.post.of_eq (word_right hf hl' S' hS) ?_
    repeat walk_at "1"
    refine ⟨fun z => (nomatch z), fun _ => ?_⟩
    repeat walk_at "1"
    exact ⟨rfl, ⟨_, rfl⟩, fun y hy => hx y (List.mem_cons_of_mem _ hy)⟩
  · rintro δ' S' ⟨rfl, ⟨o, rfl⟩, _⟩
    exact h o
theorem pow40 (n : Nat) : ∃ m : Nat, Int.fmod (n : Int) (10 ^ (40 : Int).toNat) = m ∧ m < 10 ^ 40 := by
  refine ⟨n % 10 ^ 40, ?_, Nat.mod_lt _ (by decide)⟩
  rw [Int.fmod_eq_emod_of_nonneg _ (by decide)]
  rfl
theorem o_strN {S : Sto} {m : Nat} (h : m < 10 ^ 40) : gStr S [.int m] = some (.str (mk (TL.numL m))) := by
  unfold gStr
  dsimp only
  have hl : (m : Int).natAbs.log2 < 1920 := by
    show m.log2 < 1920
    by_cases z : m = 0
    · subst z; decide
    · have : m.log2 < 134 := (Nat.log2_lt z).mpr (Nat.lt_of_lt_of_le h (by decide))
      omega
  rw [if_pos hl]
  exact congrArg (fun z => some (D.str z)) (num_text m)
/-- what the odd things share -/
structure Odd (S : Sto) (d : D) (due : Bool) : Prop where
  str : gIsi S [d, .ty "str"] = some (.bl false)
  rep : ∃ r, gRepr S [d] = some (.str r) ∧ gInQ S (.str r) (.tup [.str "7", .str "-2"]) = some (.bl due)
  whole : m_is_whole [d] S = .ok (.bl due) S
  a1 : m_is_among [d, .int (-2), .int 7] S = .ok (.bl due) S
  a2 : m_is_among [d, .int (-1), .int 6] S = .ok (.bl false) S
theorem pick8 {S : Sto} (hS : Sane S) {k : Nat} (hk : S[k]? = some (.dct [])) {v : Int} (h0 : 0 ≤ v) (h1 : v < 8) :
    ∃ d due, atI [D.non, .bl true, .int 7, .lst [], .lst [.str "a"], .ptr k, .tup [.str "a"], .int (-2)] v = some d ∧ Odd S d due := by
  have hd : deref S (.ptr k) = .dct [] := by
    unfold deref
    dsimp only
    rw [show S.getD k .non = .dct [] by rw [List.getD_eq_getElem?_getD, hk]; rfl]
  have ht : tyName S (.ptr k) = some "dict" := by unfold tyName; rw [hd]
  have gd : S.getD k .non = .dct [] := by rw [List.getD_eq_getElem?_getD, hk]; rfl
  rcases (by omega : v = 0 ∨ v = 1 ∨ v = 2 ∨ v = 3 ∨ v = 4 ∨ v = 5 ∨ v = 6 ∨ v = 7) with e | e | e | e | e | e | e | e <;> subst e
  · have w := whole_odd (a := false) (b := false) (d := .non) hS (by kernel_rfl) (by kernel_rfl)
    exact ⟨_, false, rfl, by kernel_rfl, ⟨_, rfl, by kernel_rfl⟩, w, among_odd hS w, among_odd hS w⟩
  · have w := whole_odd (a := true) (b := true) (d := .bl true) hS (by kernel_rfl) (by kernel_rfl)
    exact ⟨_, false, rfl, by kernel_rfl, ⟨_, rfl, by kernel_rfl⟩, w, among_odd hS w, among_odd hS w⟩
  · exact ⟨_, true, rfl, by kernel_rfl, ⟨_, rfl, by kernel_rfl⟩, is_whole_int 7 S hS, among_int hS 7, among_int hS 7⟩
  · have w := whole_odd (a := false) (b := false) (d := .lst []) hS (by kernel_rfl) (by kernel_rfl)
    exact ⟨_, false, rfl, by kernel_rfl, ⟨_, rfl, by kernel_rfl⟩, w, among_odd hS w, among_odd hS w⟩
  · have w := whole_odd (a := false) (b := false) (d := .lst [.str "a"]) hS (by kernel_rfl) (by kernel_rfl)
    exact ⟨_, false, rfl, by kernel_rfl, ⟨(PyData.list [.str "a"]).shown, by kernel_rfl, by kernel_rfl⟩, w, among_odd hS w, among_odd hS w⟩
  · have w := whole_odd (a := false) (b := false) (d := .ptr k) hS (by unfold gIsi; dsimp only; rw [ht]; kernel_rfl) (by unfold gIsi; dsimp only; rw [ht]; kernel_rfl)
    refine ⟨_, false, rfl, by unfold gIsi; dsimp only; rw [ht]; kernel_rfl, ⟨(PyData.dict []).shown, ?_, by kernel_rfl⟩, w, among_odd hS w, among_odd hS w⟩
    unfold gRepr toPyR
    dsimp only
    rw [gd]
    kernel_rfl
  · have w := whole_odd (a := false) (b := false) (d := .tup [.str "a"]) hS (by kernel_rfl) (by kernel_rfl)
    exact ⟨_, false, rfl, by kernel_rfl, ⟨(PyData.tuple [.str "a"]).shown, by kernel_rfl, by kernel_rfl⟩, w, among_odd hS w, among_odd hS w⟩
  · exact ⟨_, true, rfl, by kernel_rfl, ⟨_, rfl, by kernel_rfl⟩, is_whole_int (-2) S hS, among_int hS (-2), among_int hS (-2)⟩
theorem pick10 {S : Sto} (hS : Sane S) {v : Int} (h0 : 0 ≤ v) (h1 : v < 10) :
    ∃ d, atI [D.tup [.int 2, .int 4], .tup [.int 1, .int 0], .tup [.int 1, .int (-2)], .tup [.bl true, .int 1], .lst [.int 1, .int 2], .tup [.int 1, .int 2, .int 1], .tup [.int 0, .int 2], .non, .str "1/2", .tup [.int 1]] v = some d ∧ m_is_fraction [d] S = .ok (.bl false) S := by
  rcases (by omega : v = 0 ∨ v = 1 ∨ v = 2 ∨ v = 3 ∨ v = 4 ∨ v = 5 ∨ v = 6 ∨ v = 7 ∨ v = 8 ∨ v = 9) with e | e | e | e | e | e | e | e | e | e <;> subst e
  · exact ⟨_, rfl, frac_pair hS 2 4⟩
  · exact ⟨_, rfl, frac_pair hS 1 0⟩
  · exact ⟨_, rfl, frac_pair hS 1 (-2)⟩
  · exact ⟨_, rfl, frac_true hS⟩
  · exact ⟨_, rfl, frac_odd hS (by kernel_rfl)⟩
  · exact ⟨_, rfl, frac_len hS (by decide)⟩
  · exact ⟨_, rfl, frac_pair hS 0 2⟩
  · exact ⟨_, rfl, frac_odd hS (by kernel_rfl)⟩
  · exact ⟨_, rfl, frac_odd hS (by kernel_rfl)⟩
  · exact ⟨_, rfl, frac_len hS (by decide)⟩
theorem frac_nought {S : Sto} (hS : Sane S) : m_is_fraction [.tup [.int 0, .int 1]] S = .ok (.bl true) S := frac_pair hS 0 1
end DL

set_option Elab.async false
set_option linter.all false
set_option maxRecDepth 100000
set_option maxHeartbeats 4000000
set_option autoImplicit false
/-! law k01, plain part: the law. -/
namespace DL
open PySem L2
local macro_rules | `(tactic| walk_at "1") => `(tactic| with_reducible first
  | refine s_seq ?_ | refine s_asg ?_ | refine s_ret ?_ | refine s_if ?_ | refine s_expr ?_ | refine s_next ?_ | refine s_brk ?_ | refine s_cont ?_ | refine s_for ?_ | refine s_while ?_
  | refine p_c ?_ | refine p_bin ?_ | refine p_as ?_ | refine p_cons ?_ | refine p_nil ?_ | refine p_un ?_ | refine p_call ?_ | refine p_if ?_ | refine p_own ?_
  | refine p_keep ?_ | refine p_tru ?_ | refine p_and ?_ | refine p_or ?_ | refine p_not ?_ | refine p_val ?_ | refine p_rand ?_ | refine p_ror ?_ | refine p_rnot ?_ | refine p_chain ?_
  | refine o_add ?_ | refine o_sub ?_ | refine o_lt ?_ | refine o_le ?_ | refine o_gt ?_ | refine o_ge ?_ | refine o_neg ?_ | refine o_eqI ?_ | refine o_neI ?_ | refine o_abs ?_ | refine o_tru ?_ | refine p_true ?_ | refine p_false ?_
  | refine s_par ?_ | refine p_yes ?_ | refine p_lc ?_ | refine p_seq ?_ | refine s_gnil ?_ | refine s_gcons ?_ | refine p_lc_nil ?_ | refine p_lc_cons ?_ | refine p_onone ?_ | refine p_osome ?_)
local macro_rules | `(tactic| walk_at "2") => `(tactic| first
  | walk_at "1"
  | (with_reducible refine p_var2 ?_)
  | ((with_reducible refine s_name ?_ ?_); (· exact Nat.le_of_ble_eq_true rfl); dsimp only [List.set_cons_zero, List.set_cons_succ])
  | (with_reducible refine p_tup ?_) | ((with_reducible refine ⟨?_, ?_⟩); (· exact Nat.le_of_ble_eq_true rfl))
  | ((with_reducible refine p_ex2 (x := ?_) (y := ?_) ?_ ?_); rotate_left; rotate_left; (· rfl); refine ⟨?_, ?_, ?_⟩; (· exact Nat.le_of_ble_eq_true rfl); (· exact Nat.le_of_ble_eq_true rfl); dsimp only [List.set_cons_zero, List.set_cons_succ])
  | ((with_reducible refine p_isT ?_ ?_); (· rfl)) | ((with_reducible refine p_isF ?_ ?_); (· rfl))
  | ((with_reducible refine p_ex (x := ?_) ?_ ?_); rotate_left; (· rfl)))



def ffD (u : Nat) : D → D := fun x => match x with | .int i => .int (bin u i.toNat) | _ => .non
theorem chosen (u : Nat) : ((List.range (u + 3)).map fun (i : Nat) => D.int i).map (ffD u) = (rowD u ++ [0, 0]).map D.int := by
  rw [List.map_map]
  show (List.range (u + 2 + 1)).map (fun (i : Nat) => D.int (bin u i)) = _
  rw [List.range_succ, List.range_succ, List.map_append, List.map_append]
  unfold rowD
  rw [List.map_append, List.map_map, List.append_assoc]
  show _ ++ [D.int (bin u (u + 1)), D.int (bin u (u + 2))] = _
  rw [bin_gt (by omega), bin_gt (by omega)]
  rfl
theorem ends_spec (S : Sto) (hS : Sane S) : ∃ (z : Int) (ys : List D), m_choose [.int 200, .int 100] S = .ok (.int z) S ∧ m__law_row [.int 200] S = .ok (.lst ys) S ∧ atI ys 100 = some (.int z) :=
  ⟨_, _, choose_spec 200 100 (by decide) (by decide) S hS, row_spec 200 (by decide) S hS, rowD_at (k := 200) (i := 100) (by decide)⟩
theorem law_spec (ns : List Int) : ∃ S, m_law [.lst (ns.map .int)] [] = .ok (.bl true) S := by
  have sl : 6010 ≤ sizeLine := by decide
  refine ⟨[], same_of (m_def ?_)⟩
  show (b_law [some (.lst (ns.map .int)), none, none, none, none, none, none, none, none, none, none, none] []).post _ _ _ _
  unfold b_law
  repeat walk_at "2"
  refine p_enum ?_
  repeat walk_at "2"
  refine p_cutL ?_
  repeat walk_at "2"
  rw [cut20]
  repeat walk_at "2"
  with_reducible refine p_lst ?_
  repeat walk_at "2"
  refine o_sum ?_
  repeat walk_at "2"
  refine o_cat (by rw [List.length_map, List.length_take]; show min 20 ns.length + 1 ≤ _; omega) ?_
  repeat walk_at "2"
  have e : (ns.take 20).map D.int ++ [D.int ns.sum] = (ns.take 20 ++ [ns.sum]).map D.int := by rw [List.map_append]; rfl
  rw [e]
  have hq : (ns.take 20 ++ [ns.sum]).length ≤ 21 := by rw [List.length_append, List.length_take]; show min 20 ns.length + 1 ≤ _; omega
  generalize ns.take 20 ++ [ns.sum] = qs at *
  clear e
  generalize D.lst (ns.map D.int) = sc
  refine s_forL (fun xs δ S1 => Sane S1 ∧ (∃ o1 o2 o3 o4 o5 o6 o7 o8 o9 o10, δ = [some sc, o1, o2, o3, o4, o5, o6, o7, o8, o9, o10, none]) ∧ ∀ x ∈ xs, ∃ (k : Nat) (c : Int), k < 21 ∧ x = .tup [.int k, .int c]) ?_ ?_ _ _ _ ⟨rfl, ⟨_, _, _, _, _, _, _, _, _, _, rfl⟩, fun x hx => by
    obtain ⟨k, c, h1, h2⟩ := enum_ints 0 qs x hx
    exact ⟨k, c, by omega, h2⟩⟩
  · rintro x xs δ S1 ⟨hS, ⟨o1, o2, o3, o4, o5, o6, o7, o8, o9, o10, hδ⟩, hx⟩
    obtain ⟨k, c, hk, e⟩ := hx x List.mem_cons_self
    have hxs : ∀ x ∈ xs, ∃ (k : Nat) (c : Int), k < 21 ∧ x = .tup [.int k, .int c] := fun y hy => hx y (List.mem_cons_of_mem _ hy)
    clear hx
    subst hδ
    subst e
    refine s_gtup rfl ?_
    repeat walk_at "2"
    obtain ⟨S2, hd, st, hl2, hS2⟩ := draw_spec c k (by omega) S1 hS
    refine Res.post.of_eq hd ?_
    generalize S1.length = j at *
    repeat walk_at "2"
    with_reducible refine p_lst ?_
    repeat walk_at "2"
    refine (digit_spec hS2 st 4 (by decide) (by decide) (by omega)).mono ?_
    rintro d S3 ⟨v, e, h0, h1, st3, b3⟩
    subst e
    obtain ⟨ss, es, fs, l1, l2⟩ := pick4 h0 h1
    refine o_ixL es ?_
    clear es h0 h1
    repeat walk_at "2"
    refine p_meth ?_
    repeat walk_at "2"
    refine ⟨rfl, ?_⟩
    repeat walk_at "2"
    with_reducible refine p_range1 ?_
    repeat walk_at "2"
    refine (digit_spec b3.sane st3 12 (by decide) (by decide) (by omega)).mono ?_
    rintro d S4 ⟨m, e, m0, m1, st4, b4⟩
    subst e
    repeat walk_at "2"
    refine ⟨by omega, by omega, ?_⟩
    dsimp only [wipeD, List.set_cons_zero, List.set_cons_succ]
    refine Res.post.mono (p_lcL (fun xs acc S' => ∃ (n : Nat) (cs : List Nat), n + xs.length ≤ 60 ∧ cs.length + xs.length ≤ 12 ∧ acc = sgs cs ∧ Fine cs ∧ Sta n S' j ∧ Sane S') ?_ _ [] _ ⟨k + 1 + 1, [], by unfold rangeD; rw [List.length_map, List.length_range]; omega, by unfold rangeD; rw [List.length_map, List.length_range]; show 0 + _ ≤ _; omega, rfl, fun _ z => absurd z List.not_mem_nil, st4, b4.sane⟩) ?_
    · rintro x xs acc S' ⟨n, cs, g1, g2, g3, g4, g5, g6⟩
      rw [List.length_cons] at g1 g2
      repeat walk_at "2"
      refine o_len (by rw [mk_len]; omega) ?_
      rw [mk_len]
      repeat walk_at "2"
      refine (digit_spec g6 g5 ss.length (by omega) (by omega) (by omega)).mono ?_
      rintro d S5 ⟨v, e, h0, h1, st5, b5⟩
      subst e
      obtain ⟨c, hc, ec⟩ : ∃ c ∈ ss, atI (mk ss).cps.toList v = some c := by
        have hv : v.toNat < ss.length := by omega
        refine ⟨ss[v.toNat], List.getElem_mem hv, ?_⟩
        rw [mk_list]
        unfold atI ixN
        rw [if_pos h0, if_pos h1]
        show ss[v.toNat]? = _
        rw [List.getElem?_eq_getElem hv]
      refine o_ixS (by rw [mk_len]; omega) ec ?_
      refine ⟨n + 1, cs ++ [c], by omega, by rw [List.length_append]; show cs.length + 1 + _ ≤ _; omega, ?_, ?_, st5, b5.sane⟩
      · rw [g3]; unfold sgs; rw [List.map_append]; rfl
      · intro d hd
        rcases List.mem_append.mp hd with h | h
        · exact g4 d h
        · rw [List.mem_singleton.mp h]; exact fs c hc
    rintro ys S5 ⟨n, ws, g1, g2, g3, g4, g5, g6⟩
    have g3 : ys = sgs ws := g3
    subst g3
    have g2 : ws.length ≤ 12 := g2
    have g1 : n ≤ 60 := g1
    have wl : (sgs ws).length = ws.length := by unfold sgs; rw [List.length_map]
    refine ⟨by omega, ?_⟩
    repeat walk_at "2"
    refine ⟨_, _, o_join (by omega), ?_⟩
    repeat walk_at "2"
    refine o_pow ⟨by decide, by decide, by decide⟩ ?_
    repeat walk_at "2"
    refine o_mod (by decide) ?_
    obtain ⟨m, em, hm⟩ := pow40 c.natAbs
    rw [em]
    clear em
    repeat walk_at "2"
    refine p_lift (o_strN hm) ?_
    have nf := num_fine m
    have nl : (TL.numL m).length ≤ 40 := TL.numL_len (by decide) hm
    repeat walk_at "2"
    with_reducible refine p_lst ?_
    repeat walk_at "2"
    refine o_addM (x := "-") (by show 1 + ws.length ≤ _; omega) ?_
    repeat walk_at "2"
    refine o_addM (x := "-") (by show 1 + (TL.numL m).length ≤ _; omega) ?_
    repeat walk_at "2"
    refine p_lift (show gMulS S5 (.str "0") (.int 39) = some (.str (Txt.mul "0" 39)) by kernel_rfl) ?_
    repeat walk_at "2"
    refine o_addS (by decide +kernel) ?_
    repeat walk_at "2"
    refine p_lift (show gMulS S5 (.str "9") (.int 40) = some (.str (Txt.mul "9" 40)) by kernel_rfl) ?_
    repeat walk_at "2"
    refine o_addS (by decide +kernel) ?_
    repeat walk_at "2"
    refine .inl ⟨_, rfl, ?_⟩
    have q1 := good_app (x := "-") (b := ws) (by decide +kernel) (by decide +kernel) g4 (by omega)
    have q2 := good_app (x := "-") (b := TL.numL m) (by decide +kernel) (by decide +kernel) nf (by omega)
    have q3 := good_app (x := "0") (b := TL.numL m) (by decide +kernel) (by decide +kernel) nf (by omega)
    refine words_loop (δ := [some sc, some (D.int ↑k), some (D.int c), some (D.ptr j), some (D.str (mk ss)), some (D.str (mk ws)), some (D.str (mk (TL.numL m))), o7, o8, o9, o10, none]) g6 (by exact Nat.le_of_ble_eq_true rfl) (fun x hx => ?_) (fun o => ?_)
    · rcases List.mem_cons.mp hx with rfl | hx
      · exact ⟨ws, rfl, g4, by omega⟩
      rcases List.mem_cons.mp hx with rfl | hx
      · exact q1
      rcases List.mem_cons.mp hx with rfl | hx
      · exact ⟨_, rfl, nf, by omega⟩
      rcases List.mem_cons.mp hx with rfl | hx
      · exact q2
      rcases List.mem_cons.mp hx with rfl | hx
      · exact good_of _ (by decide +kernel) (by decide +kernel)
      rcases List.mem_cons.mp hx with rfl | hx
      · exact good_of _ (by decide +kernel) (by decide +kernel)
      cases hx
    dsimp only [List.set_cons_zero, List.set_cons_succ]
    repeat walk_at "2"
    with_reducible refine p_lst ?_
    repeat walk_at "2"
    refine o_addM (x := "0") (by show 1 + (TL.numL m).length ≤ _; omega) ?_
    repeat walk_at "2"
    refine p_lift (show gMulS S5 (.str "7") (.int 41) = some (.str (Txt.mul "7" 41)) by kernel_rfl) ?_
    repeat walk_at "2"
    refine p_lift (show gMulS S5 (.str "7") (.int 5000) = some (.str (Txt.mul "7" 5000)) by kernel_rfl) ?_
    repeat walk_at "2"
    refine .inl ⟨_, rfl, ?_⟩
    refine words_loop (δ := [some sc, some (D.int ↑k), some (D.int c), some (D.ptr j), some (D.str (mk ss)), some (D.str (mk ws)), some (D.str (mk (TL.numL m))), none, o8, o9, o10, none]) (o := o) g6 (by exact Nat.le_of_ble_eq_true rfl) (fun x hx => ?_) (fun o => ?_)
    · rcases List.mem_cons.mp hx with rfl | hx
      · exact q3
      rcases List.mem_cons.mp hx with rfl | hx
      · exact good_of _ (by decide +kernel) (by decide +kernel)
      rcases List.mem_cons.mp hx with rfl | hx
      · exact good_of _ (by decide +kernel) (by decide +kernel)
      cases hx
    dsimp only [List.set_cons_zero, List.set_cons_succ]
    repeat walk_at "2"
    refine (fractions_right g6 g5 (by omega)).mono ?_
    rintro d S6 ⟨e, st6, b6⟩
    subst e
    repeat walk_at "2"
    refine (digit_spec b6.sane st6 21 (by decide) (by decide) (by omega)).mono ?_
    rintro d S7 ⟨v, e, v0, v1, st7, b7⟩
    subst e
    repeat walk_at "2"
    obtain ⟨u, rfl⟩ : ∃ u : Nat, v = u := ⟨v.toNat, by omega⟩
    with_reducible refine p_range1 ?_
    repeat walk_at "2"
    refine ⟨by omega, by omega, ?_⟩
    dsimp only [wipeD, List.set_cons_zero, List.set_cons_succ]
    rw [show ((u : Int) + 3) = ((u + 3 : Nat) : Int) by omega, rangeD_nat]
    refine Res.post.of_eq (lcL_map (f := ffD u) (by exact Nat.le_of_ble_eq_true rfl) (fun x hx => ?_)) ?_
    · obtain ⟨i, hi, rfl⟩ := List.mem_map.mp hx
      have hi := List.mem_range.mp hi
      refine exact_of ?_
      repeat walk_at "2"
      exact Res.post.of_eq (choose_spec u i (by omega) (by omega) S7 b7.sane) ⟨rfl, rfl⟩
    have em := chosen u
    rw [em]
    have rl : (rowD u).length = u + 1 := by unfold rowD; simp
    refine ⟨by rw [List.length_map, List.length_append, rl]; show u + 1 + 2 ≤ _; omega, ?_⟩
    repeat walk_at "2"
    have hrow := row_spec u (by omega) S7 b7.sane
    with_reducible refine Res.post.of_eq hrow ?_
    clear hrow
    repeat walk_at "2"
    with_reducible refine p_lst ?_
    repeat walk_at "2"
    refine o_cat (by rw [List.length_map, rl]; show u + 1 + 2 ≤ _; omega) ?_
    repeat walk_at "2"
    have ea : (rowD u).map D.int ++ [D.int 0, D.int 0] = (rowD u ++ [0, 0]).map D.int := by rw [List.map_append]; rfl
    rw [ea]
    with_reducible refine o_neIs ?_
    rw [decide_eq_true (rfl : rowD u ++ [0, 0] = rowD u ++ [0, 0])]
    repeat walk_at "2"
    with_reducible refine p_lst ?_
    repeat walk_at "2"
    with_reducible refine p_lst ?_
    repeat walk_at "2"
    with_reducible refine p_lst ?_
    repeat walk_at "2"
    have jl : j < S7.length := by obtain ⟨_, _, _, e, _⟩ := st7; exact (List.getElem?_eq_some_iff.mp e).1
    have st7' : Sta (n + 5 + 1) (S7 ++ [.dct []]) j := by
      obtain ⟨l, s, t, e, r⟩ := st7
      exact ⟨l, s, t, at_app e, r⟩
    refine (digit_spec (sane_app b7.sane rfl) st7' 8 (by decide) (by decide) (by omega)).mono ?_
    rintro d S8 ⟨v, e, v0, v1, st8, b8⟩
    subst e
    have k8 : S8[S7.length]? = some (.dct []) := by
      rw [b8.at_ _ (by omega), List.getElem?_append_right (Nat.le_refl _), Nat.sub_self]
      rfl
    obtain ⟨d, due, e, O⟩ := pick8 b8.sane k8 v0 v1
    refine o_ixL e ?_
    clear e
    repeat walk_at "2"
    refine Res.post.of_eq (num_odd b8.sane O.str) ?_
    repeat walk_at "2"
    refine p_lift (a := D.bl false) rfl ?_
    repeat walk_at "2"
    refine Res.post.of_eq (words_odd b8.sane O.str) ?_
    repeat walk_at "2"
    refine p_lift (a := D.bl false) rfl ?_
    repeat walk_at "2"
    refine Res.post.of_eq (name_odd b8.sane O.str) ?_
    repeat walk_at "2"
    refine p_lift (a := D.bl false) rfl ?_
    repeat walk_at "2"
    obtain ⟨r, hr1, hr2⟩ := O.rep
    refine p_lift hr1 ?_
    repeat walk_at "2"
    refine p_lift hr2 ?_
    repeat walk_at "2"
    with_reducible refine p_lst ?_
    repeat walk_at "2"
    refine Res.post.of_eq O.whole ?_
    repeat walk_at "2"
    refine Res.post.of_eq O.a1 ?_
    repeat walk_at "2"
    refine Res.post.of_eq O.a2 ?_
    repeat walk_at "2"
    obtain ⟨r2, h2, h3⟩ : ∃ r, gRepr S8 [.lst [.bl due, .bl due, .bl false]] = some (.str r) ∧ PyData.strOk r = true := by
      cases due
      · exact ⟨(PyData.list [.bool false, .bool false, .bool false]).shown, by kernel_rfl, by kernel_rfl⟩
      · exact ⟨(PyData.list [.bool true, .bool true, .bool false]).shown, by kernel_rfl, by kernel_rfl⟩
    refine p_lift h2 ?_
    repeat walk_at "2"
    with_reducible refine p_lst ?_
    repeat walk_at "2"
    refine p_lift h2 ?_
    repeat walk_at "2"
    refine o_neS h3 h3 ?_
    rw [beq_self_eq_true]
    repeat walk_at "2"
    with_reducible refine p_lst ?_
    repeat walk_at "2"
    with_reducible refine p_lst ?_
    repeat walk_at "2"
    refine (digit_spec b8.sane st8 10 (by decide) (by decide) (by omega)).mono ?_
    rintro d S9 ⟨v, e, v0, v1, st9, b9⟩
    subst e
    obtain ⟨d, e, O9⟩ := pick10 b9.sane v0 v1
    refine o_ixL e ?_
    clear e
    repeat walk_at "2"
    refine Res.post.of_eq O9 ?_
    repeat walk_at "2"
    refine p_lift (a := D.bl false) rfl ?_
    repeat walk_at "2"
    refine Res.post.of_eq (frac_nought b9.sane) ?_
    repeat walk_at "2"
    refine p_lift (a := D.bl false) rfl ?_
    repeat walk_at "2"
    exact ⟨b9.sane, ⟨_, _, _, _, _, _, _, _, _, _, rfl⟩, hxs⟩
  · rintro δ S1 ⟨hS, ⟨o1, o2, o3, o4, o5, o6, o7, o8, o9, o10, hδ⟩, _⟩
    subst hδ
    repeat walk_at "1"
    obtain ⟨z, ys, h1, h2, h3⟩ := ends_spec S1 hS
    with_reducible refine Res.post.of_eq h1 ?_
    repeat walk_at "2"
    with_reducible refine Res.post.of_eq h2 ?_
    repeat walk_at "2"
    refine o_ixL h3 ?_
    repeat walk_at "2"
    rw [beq_self_eq_true]
    repeat walk_at "2"
    have h4 := gcd_spec 0 0 S1 hS
    with_reducible refine Res.post.of_eq h4 ?_
    repeat walk_at "2"
    exact ⟨by simp [closedL, D.closed], rfl, rfl⟩
end DL

set_option Elab.async false
set_option linter.all false
set_option maxRecDepth 100000
set_option maxHeartbeats 0
set_option autoImplicit false
namespace DL
open PySem PySem.Spec PyProof.Rows L2
abbrev R : PySem.W.OpenRow := PySem.W.OpenLaw.row PySem.Challenge.rw_roundless_k01_words_and_fractions
abbrev hk : PySem.W.Hook := He.hookD 4 fa fn
def ob (s : PySem.W.SharedT) : He.AlD := He.obsDG 4 fa fn (HandSHeadRun.getT s)
theorem ob_eq (s : PySem.W.SharedT) : ob s = hk.obs s.abs := He.obsDG_eq (HandSHeadRun.getT_eq s)
def loose : List Str := ["LETTERS", "FIGURES", "MOST_LETTERS", "MOST_FIGURES", "is_whole", "is_among", "is_name", "number_of", "words_of", "common_divisor", "fraction", "is_fraction", "plus", "less", "times", "over", "choose", "_law_mixed", "_law_draw", "_law_digit", "_law_figures", "_law_word_right", "_law_lowest", "_law_divided", "_law_fractions_right", "_law_row"]
theorem run (w : World) : HandSHeadRun.RunEq R (PySem.W.view R.prog [29]) hk ob 2000 loose w := by
  intro os
  kernel_rfl
end DL
open PySem PySem.W PySem.Calls PyProof.Rows
theorem DL.holds_of (hm : ∀ ns : List Int, ns.length ≤ 63 → ∃ S, DL.m_law [.lst (ns.map .int)] [] = .ok (.bl true) S) : PySem.Challenge.rw_roundless_k01_words_and_fractions.Holds := by
  w_on; o_law
  refine HandSHeadRun.head_any (r := OpenLaw.row PySem.Challenge.rw_roundless_k01_words_and_fractions) (q := view (OpenLaw.row PySem.Challenge.rw_roundless_k01_words_and_fractions).prog [29]) (H := DL.hk) (ob := DL.ob) (M := 2000) (loose := DL.loose) (d := HandSHeadRun.topDef (OpenLaw.row PySem.Challenge.rw_roundless_k01_words_and_fractions).prog 29) (kwd := []) DL.ob_eq
    (by kernel_rfl) (fun s => by kernel_rfl) DL.run (by kernel_rfl) (by kernel_rfl) (by kernel_rfl) (by rfl) (by first | assumption | decide +kernel) (by decide +kernel) ⟨rfl, rfl, rfl, rfl, rfl, by decide +kernel⟩ ?hw ?hc
  case hw => w_witness2
  case hc =>
    refine DL.walkG (l := PySem.Challenge.rw_roundless_k01_words_and_fractions) (n := 63) (k := 5) (m := DL.m_law) rfl (by decide) (by kernel_rfl) ⟨rfl, by decide, by decide⟩ ?F hm
    intro w mg h Y G
    obtain ⟨K, KX, c⟩ := Y
    have e : (HandSHeadRun.topDef (OpenLaw.row PySem.Challenge.rw_roundless_k01_words_and_fractions).prog 29).name = ("law" : PySem.Str) := by kernel_rfl
    refine ⟨K, KX, fun base _ _ => ?_⟩
    rw [e]
    exact DL.ok_law (DL.txt KX G c)

open PySem PySem.W PyProof.Rows
theorem PySem.Challenge.cw_roundless_k01_words_and_fractions_holds : PySem.Challenge.rw_roundless_k01_words_and_fractions.Holds := by
  exact DL.holds_of fun ns h => DL.law_spec ns
