import PyProof.Rows.All
import Wide.All
import OpenK.AllK
import Wide.FinOn
import HandS.ForMost
import HandS.ForExc
import HandS.Flow
import HandS.IsInst
import HandS.Wide
import KE.KeyNested
import HandS.TupAny
import HandS.Style
import HandS.NoneIn
import HandS.StrMore
import HandS.RaiseMore
import PyProof.ListStr
import HandS.More
import HandS.Conv
import HandS.HeadHook2
import HandS.HeadEnd
import HandS.Head0
import HandS.Head1
import HandS.Head2
import HandS.Ends
import KE.IntTextLaws
import PyProof.DictRoadsH
import KE.KDictPairs
import KE.KDictWalk
import KE.DataCmp
import KE.SortData
import HandS.DictTup
import HandS.SetTxt0
import HandS.SetFor
import HandS.TupSets
import KE.KRevSl
import HandS.Zip
import PyProof.Rows.Digits
import PyProof.ReprReads
import PyProof.StrLawsRepr
import PyProof.ReprText
import KE.KEqDict
import PySem.Challenge.RW_roundless_k19_what_forms_are_worth
import KE.KStateDown
import HandS.HeadHook1
set_option Elab.async false
set_option linter.all false
set_option maxRecDepth 100000
set_option maxHeartbeats 4000000
/-! Data layer, first part: data, results, mirrors of expressions and statements (plain Lean). -/
namespace DL
open PySem PySem.Spec PyProof.Rows L2

/-- a thing as data: what is never changed stands as a whole, what may be changed stands by its number in the store -/
inductive D where
  | non | bl (b : Bool) | int (i : Int) | str (x : Str)
  | tup (xs : List D) | lst (xs : List D) | dct (kvs : List (D × D)) | dcn (kvs : List (D × D))
  | ptr (k : Nat) | fn (x : Str) | ty (n : String) | lck (d : D) | tux (xs : List D)
  deriving Inhabited

abbrev Sl := List (Option D)
abbrev Sto := List D
inductive Res (A : Type) where
  | ok (a : A) (S : Sto)
  | err (c : Str) (fs : List (Str × D)) (S : Sto)
  | stuck
abbrev RE := Sl → Sto → Res D
abbrev RB := Sl → Sto → Res Bool
abbrev RA := Sl → Sto → Res (List D)
abbrev RG := D → Sl → Sto → Res Sl
abbrev Mir := List D → Sto → Res D
inductive Out where
  | nx (δ : Sl) (S : Sto) | rt (d : D) (S : Sto) | bk (δ : Sl) (S : Sto) | ct (δ : Sl) (S : Sto)
  | err (c : Str) (fs : List (Str × D)) (δ : Sl) (S : Sto) | stuck
abbrev RS := Sl → Sto → Out

def Res.bind {A B : Type} (r : Res A) (f : A → Sto → Res B) : Res B := match r with
  | .ok a S => f a S
  | .err c fs S => .err c fs S
  | .stuck => .stuck
def Res.out (δ : Sl) {A : Type} (r : Res A) (f : A → Sto → Out) : Out := match r with
  | .ok a S => f a S
  | .err c fs S => .err c fs δ S
  | .stuck => .stuck
def Res.lift {A : Type} (o : Option A) (S : Sto) : Res A := match o with
  | some a => .ok a S
  | none => .stuck

def deref (S : Sto) : D → D
  | .ptr k => match S.getD k .non with
    | .non => .ptr k
    | .lck d => d
    | d => d
  | d => d

/-! expressions -/
def rVar (i : Nat) : RE := fun δ S => match δ[i]? with
  | some (some d) => .ok d S
  | _ => .stuck
def rC (d : D) : RE := fun _ S => .ok d S
def rUn (g : Sto → D → Option D) (a : RE) : RE := fun δ S => (a δ S).bind fun x S1 => .lift (g S1 x) S1
def rBin (g : Sto → D → D → Option D) (a b : RE) : RE := fun δ S => (a δ S).bind fun x S1 => (b δ S1).bind fun y S2 => .lift (g S2 x y) S2
def rAs (g : Sto → List D → Option D) (a : RA) : RE := fun δ S => (a δ S).bind fun x S1 => .lift (g S1 x) S1
def rNil : RA := fun _ S => .ok [] S
def rCons (a : RE) (b : RA) : RA := fun δ S => (a δ S).bind fun x S1 => (b δ S1).bind fun ys S2 => .ok (x :: ys) S2
def rCall (m : Mir) (a : RA) : RE := fun δ S => (a δ S).bind m
def rIf (c : RB) (a b : RE) : RE := fun δ S => (c δ S).bind fun k S1 => if k then a δ S1 else b δ S1
def rOwn (a : RE) : RE := fun δ S => (a δ S).bind fun d S1 => .ok (.ptr S1.length) (S1 ++ [d])
def rTup (a : RA) : RE := fun δ S => (a δ S).bind fun xs S1 => if xs.length ≤ sizeLine then .ok (.tup xs) S1 else .stuck
def rLst (a : RA) : RE := fun δ S => (a δ S).bind fun xs S1 => if xs.length ≤ sizeLine then .ok (.lst xs) S1 else .stuck

def truth (S : Sto) (d : D) : Option Bool := match deref S d with
  | .non => some false
  | .bl b => some b
  | .int i => some (i != 0)
  | .str y => if y.length ≤ sizeLine then some ((y.length : Int) != 0) else none
  | .tup xs => some (!xs.isEmpty)
  | .lst xs => some (!xs.isEmpty)
  | _ => none
/-! tests -/
def bTru (a : RE) : RB := fun δ S => (a δ S).bind fun x S1 => .lift (truth S1 x) S1
def bAnd (a b : RB) : RB := fun δ S => (a δ S).bind fun k S1 => if k then b δ S1 else .ok false S1
def bOr (a b : RB) : RB := fun δ S => (a δ S).bind fun k S1 => if k then .ok true S1 else b δ S1
def bNot (a : RB) : RB := fun δ S => (a δ S).bind fun k S1 => .ok (!k) S1
/-! and, or, not as values -/
def rAnd (a b : RE) : RE := fun δ S => (a δ S).bind fun x S1 => (Res.lift (truth S1 x) S1).bind fun k S2 => if k then b δ S2 else .ok x S2
def rOr (a b : RE) : RE := fun δ S => (a δ S).bind fun x S1 => (Res.lift (truth S1 x) S1).bind fun k S2 => if k then .ok x S2 else b δ S2
def rNot (a : RE) : RE := fun δ S => (a δ S).bind fun x S1 => (Res.lift (truth S1 x) S1).bind fun k S2 => .ok (.bl (!k)) S2

/-! targets -/
def gName (i : Nat) : RG := fun d δ S => if i < δ.length then .ok (δ.set i (some d)) S else .stuck
def gNil : List D → Sl → Sto → Res Sl := fun ds δ S => match ds with
  | [] => .ok δ S
  | _ => .stuck
def gCons (g : RG) (u : List D → Sl → Sto → Res Sl) : List D → Sl → Sto → Res Sl := fun ds δ S => match ds with
  | d :: r => (g d δ S).bind fun δ1 S1 => u r δ1 S1
  | [] => .stuck
def gTup (u : List D → Sl → Sto → Res Sl) : RG := fun d δ S => match deref S d with
  | .tup ds => u ds δ S
  | .tux ds => u ds δ S
  | _ => .stuck

/-! statements -/
def sNext : RS := fun δ S => .nx δ S
def sSeq (a b : RS) : RS := fun δ S => match a δ S with
  | .nx δ1 S1 => b δ1 S1
  | o => o
def sAsg (e : RE) (g : RG) : RS := fun δ S => (e δ S).out δ fun d S1 => (g d δ S1).out δ fun δ1 S2 => .nx δ1 S2
def sExpr (e : RE) : RS := fun δ S => (e δ S).out δ fun _ S1 => .nx δ S1
def sRet (e : RE) : RS := fun δ S => (e δ S).out δ fun d S1 => .rt d S1
def sIf (c : RB) (a b : RS) : RS := fun δ S => (c δ S).out δ fun k S1 => if k then a δ S1 else b δ S1
def sBreak : RS := fun δ S => .bk δ S
def sCont : RS := fun δ S => .ct δ S
def sNever : RS := fun _ _ => .stuck
def forL (g : RG) (b : RS) : List D → RS
  | [], δ, S => .nx δ S
  | x :: xs, δ, S => (g x δ S).out δ fun δ1 S1 => match b δ1 S1 with
    | .nx δ2 S2 => forL g b xs δ2 S2
    | .ct δ2 S2 => forL g b xs δ2 S2
    | .bk δ2 S2 => .nx δ2 S2
    | o => o
def sFor (it : RA) (g : RG) (b : RS) : RS := fun δ S => (it δ S).out δ fun xs S1 => forL g b xs δ S1
def whileL (c : RB) (b : RS) : Nat → RS
  | 0, _, _ => .stuck
  | n + 1, δ, S => (c δ S).out δ fun k S1 => if k then (match b δ S1 with
    | .nx δ2 S2 => whileL c b n δ2 S2
    | .ct δ2 S2 => whileL c b n δ2 S2
    | .bk δ2 S2 => .nx δ2 S2
    | o => o) else .nx δ S1
def sWhile (fuel : Sl → Sto → Nat) (c : RB) (b : RS) : RS := fun δ S => whileL c b (fuel δ S) δ S
/-- the turns of a list comprehension; δ: the slots without its own names -/
def lcL (g : RG) (t : RB) (e : RE) : List D → Sl → Sto → Res (List D)
  | [], _, S => .ok [] S
  | x :: xs, δ, S => (g x δ S).bind fun δ1 S1 => (t δ1 S1).bind fun k S2 =>
    if k then (e δ1 S2).bind fun y S3 => (lcL g t e xs δ S3).bind fun ys S4 => .ok (y :: ys) S4 else lcL g t e xs δ S2
def wipeD (δ : Sl) : List Nat → Sl
  | [] => δ
  | v :: vs => (wipeD δ vs).set v none
def noErr {A : Type} (r : Res A) : Res A := match r with
  | .err _ _ _ => .stuck
  | r => r
def bYes : RB := fun _ S => .ok true S
def rLc (it : RA) (g : RG) (vs : List Nat) (t : RB) (e : RE) : RE := fun δ S => (it δ S).bind fun xs S1 =>
  (noErr (lcL g t e xs (wipeD δ vs) S1)).bind fun ys S2 => if ys.length ≤ sizeLine then .ok (.lst ys) S2 else .stuck

/-! keys of any depth -/
mutual
def keyN : D → Option NestedKey
  | .non => some .none
  | .bl b => some (.num (if b = true then 1 else 0))
  | .int i => some (.num i)
  | .str x => some (.text x)
  | .tup xs => (keyNs xs).map .tup
  | _ => none
def keyNs : List D → Option (List NestedKey)
  | [] => some []
  | d :: r => match keyN d, keyNs r with
    | some k, some ks => some (k :: ks)
    | _, _ => none
end
/-- a tuple that may be a key -/
def isKeyN (d : D) : Bool := match d with
  | .tup _ => (match keyN d with
    | some k => decide (k.depth ≤ 8)
    | none => false)
  | _ => false
def eqN (a b : D) : Bool := match keyN a, keyN b with
  | some x, some y => NestedKey.beq x y
  | _, _ => false
def lookN : List (D × D) → D → Option D
  | [], _ => none
  | (k, v) :: r, q => if eqN k q then some v else lookN r q
def replN : List (D × D) → D → D → List (D × D)
  | [], _, _ => []
  | (k, v) :: r, q, y => if eqN k q then (k, y) :: replN r q y else (k, v) :: replN r q y
def putN (kvs : List (D × D)) (q y : D) : List (D × D) := if (lookN kvs q).isSome then replN kvs q y else kvs ++ [(q, y)]
def mergeN (kvs more : List (D × D)) : List (D × D) := more.foldl (fun acc kv => putN acc kv.1 kv.2) kvs
/-! ghost steps -/
/-- the object of slot i is changed no more -/
def sFreeze (i : Nat) : RS := fun δ S => match δ[i]? with
  | some (some (.ptr k)) => (match S[k]? with
    | some (.lst ds) => .nx (δ.set i (some (.lst ds))) (S.set k .non)
    | _ => .stuck)
  | _ => .stuck
mutual
/-- nothing in it stands in the store from n on -/
def D.closed (n : Nat) : D → Bool
  | .ptr k => decide (k < n)
  | .tup xs => closedL n xs
  | .lst xs => closedL n xs
  | .dct kvs => closedK n kvs
  | .dcn kvs => closedK n kvs
  | .lck d => D.closed n d
  | .tux xs => closedL n xs
  | _ => true
def closedL (n : Nat) : List D → Bool
  | [] => true
  | d :: r => D.closed n d && closedL n r
def closedK (n : Nat) : List (D × D) → Bool
  | [] => true
  | (k, v) :: r => D.closed n k && D.closed n v && closedK n r
end
/-- a thing of the store that is neither gone nor locked -/
def D.open : D → Bool
  | .non => false
  | .lck _ => false
  | _ => true
def D.owned : D → Bool
  | .lst _ => true
  | .dct _ => true
  | .dcn _ => true
  | _ => false
/-- a thing that a def made and gives away, to be changed further -/
def giveD (n : Nat) (d : D) (S1 : Sto) : Res D := match d with
  | .ptr k => (match S1[k]? with
    | some u => if u.owned && D.closed n u && decide (n ≤ k) && closedL n (S1.take n) then .ok (.ptr n) (S1.take n ++ [u]) else .stuck
    | none => .stuck)
  | _ => .stuck
/-- a def: n slots, its body; what it made itself in the store goes -/
def mDef (n : Nat) (b : RS) : Mir := fun ds S => match b (ds.map some ++ List.replicate (n - ds.length) none) S with
  | .rt d S1 => if D.closed S.length d && closedL S.length (S1.take S.length) then .ok d (S1.take S.length) else giveD S.length d S1
  | .nx _ S1 => if closedL S.length (S1.take S.length) then .ok .non (S1.take S.length) else .stuck
  | .err c fs _ S1 => if closedL S.length (fs.map (·.2)) && closedL S.length (S1.take S.length) then .err c fs (S1.take S.length) else .stuck
  | _ => .stuck
end DL

set_option Elab.async false
set_option linter.all false
set_option maxRecDepth 100000
set_option maxHeartbeats 4000000
set_option autoImplicit false
/-! Data layer: tuples that are made, known to the object. -/
namespace DL
open PySem PySem.Spec PyProof.Rows L2
abbrev Fg := PySem.W.Frag
/-- a tuple without a dict of its own -/
def PlT (K : Fg) (F : Hp) (a : Addr) (xs : List V) : Prop := SqT K F a xs ∧ ((∃ o, F a = some (.frz o (.tup xs)) ∧ o.dict = none) ∨ ∃ o, K.lookup a = some o ∧ o.dict = none)
/-- a tuple that is made at a new place -/
def TLays (H : Hp) (xs : List V) (Q : VK) : Prop := ∀ p, H p = none → ∀ o : Obj, o.dict = none → Q (.ref p) (upd H p (.frz o (.tup xs)))
def tupObj (us : Array Value) : Obj := { cls := .type "tuple", data := .seq us }
theorem tup_frz {P : Program} {w : World} {H : Hp} {h : Heap} {us : List Value} {xs : List V} (z : xs.length ≤ sizeLine) (r : Vals xs us) : ObjOk P w H (h.push (tupObj us.toArray)) h.objs.size (.frz (tupObj us.toArray) (.tup xs)) :=
  ⟨Heap.get?_push_size _ rfl, z, us, r, ⟨_, Heap.get?_push_size _ rfl, rfl, _, rfl⟩⟩
section
variable {X : Cx} {es : List Expr} {pos : Pos} {t : TA}
def tTupP (t : TA) : TE := fun σ H Q => t σ H fun xs H1 => xs.length ≤ sizeLine ∧ TLays H1 xs Q
theorem pe_tupP {x1} (h : PA X es t) : PE X (.Tuple es x1 pos) (tTupP t) := by
  refine ⟨fun pins s σ H Q I hq => ?_⟩
  refine wpAny_Tuple_spliced (thn (h.run pos pins s σ H _ I hq) fun us s1 ⟨xs, H1, I1, r, z, q⟩ => ⟨by rw [← r.length]; exact z, ?_⟩)
  have hf : H1 s1.heap.objs.size = none := I1.hok.fresh (Nat.le_refl _)
  exact ⟨.ref s1.heap.objs.size, upd H1 s1.heap.objs.size (.frz (tupObj us.toArray) (.tup xs)), I1.laid (t' := s1.toks) (fun b u e => Heap.get?_push_of_some _ e) (Nat.le_refl _) (tup_frz z r), rfl, q _ hf _ rfl⟩
theorem call_tuple_ofP : CallR X (.type "tuple") (fun xs H Q => ∃ p ys, xs = [.ref p] ∧ ((SqL X.K H p ys ∧ TLays H ys Q) ∨ (SqT X.K H p ys ∧ Q (.ref p) H))) := by
  intro pins s σ H xs us Q I r h
  obtain ⟨p, ys, rfl, h⟩ := h
  obtain ⟨u, rfl, rx⟩ := vals1 r
  cases rx
  rcases h with ⟨hq, q⟩ | ⟨hq, q⟩
  · obtain ⟨its, r', pl, hz⟩ := I.list hq
    have hlen := r'.length
    refine call_tuple_list pl.isList (fun h' kp => ?_) (by simp only [List.size_toArray] <;> omega)
    have I1 : Inv X pins σ H { s with heap := h' } := I.kept (t' := s.toks) kp
    have I2 : Inv X pins σ (upd H h'.objs.size (.frz (tupObj its.toArray) (.tup ys))) { s with heap := h'.push { cls := .type "tuple", data := .seq its.toArray } } :=
      I1.laid (t' := s.toks) (fun b o e => Heap.get?_push_of_some _ e) (Nat.le_refl _) (tup_frz hz r')
    exact ⟨.ref h'.objs.size, _, I2, rfl, q _ (I1.hok.fresh (Nat.le_refl _)) _ rfl⟩
  · obtain ⟨its, r', pl, hz⟩ := I.tuple hq
    exact call_tuple_same pl ⟨.ref p, H, I, rfl, q⟩
/-- t + u -/
def rCatP (K : Fg) : R2 := fun x y H Q => ∃ a b xs ys, x = .ref a ∧ y = .ref b ∧ SqT K H a xs ∧ SqT K H b ys ∧ xs.length + ys.length ≤ sizeLine ∧
  (xs = [] → Q (.ref b) H) ∧ (xs ≠ [] → ys = [] → Q (.ref a) H) ∧ (xs ≠ [] → ys ≠ [] → TLays H (xs ++ ys) Q)
theorem op_catP : OpR X (binaryOp .Add) (rCatP X.K) := by
  intro pins s σ H x y v u Q I rx ry h
  obtain ⟨a, b, xs, ys, rfl, rfl, ha, hb, hz, q0, q1, q2⟩ := h
  cases rx
  cases ry
  obtain ⟨its, r1, p1, _⟩ := I.tuple ha
  obtain ⟨its2, r2, p2, _⟩ := I.tuple hb
  by_cases hx : xs = []
  · subst hx
    cases r1
    exact cat_tup0 p1 p2 ⟨.ref b, H, I, rfl, q0 rfl⟩
  · refine HT.cat_tup p1 p2 (fun z => hx (r1.nil_iff.mp z)) (fun z => ⟨.ref a, H, I, rfl, q1 hx (r2.nil_iff.mp z)⟩) (fun z => ?_) (by rw [← r1.length, ← r2.length]; exact hz)
    exact ⟨.ref s.heap.objs.size, _, I.laid (t' := s.toks) (o := .frz (tupObj (its ++ its2).toArray) (.tup (xs ++ ys))) (fun b ob q => Heap.get?_push_of_some _ q) (Nat.le_refl _) (tup_frz (by rw [List.length_append]; exact hz) (r1.append r2)), rfl, q2 hx (fun w => z (r2.nil_iff.mpr w)) _ (I.hok.fresh (Nat.le_refl _)) _ rfl⟩
/-- t[lo:hi]: the whole of it is t itself -/
def rSlP (K : Fg) : V → Option Int → Option Int → Hp → VK → Prop := fun x lo hi H Q => ∃ a xs, x = .ref a ∧ SqT K H a xs ∧
  (HT.sIx xs.length 0 lo = 0 ∧ HT.sIx xs.length xs.length hi = xs.length → Q (.ref a) H) ∧ (¬ (HT.sIx xs.length 0 lo = 0 ∧ HT.sIx xs.length xs.length hi = xs.length) → TLays H (cutV xs lo hi) Q)
theorem sl_tupP : SlR X (rSlP X.K) := by
  intro pins s σ H x v vl vu lo hi sl Q I rx hs pl pu h
  obtain ⟨a, xs, rfl, hx, q1, q2⟩ := h
  cases rx
  obtain ⟨its, r, ht, hz⟩ := I.tuple hx
  have hlen : its.toArray.size = xs.length := by rw [List.size_toArray]; exact r.length.symm
  refine ⟨"tuple", _, PyProof.Rows.slot_tuple_getitem.lookup, ht.typeIs, ?_⟩
  by_cases hw : HT.sIx xs.length 0 lo = 0 ∧ HT.sIx xs.length xs.length hi = xs.length
  · exact getItem_tuple_whole ht hs pl pu (by rw [hlen]; exact hw) ⟨.ref a, H, I, rfl, q1 hw⟩
  · refine HT.getItem_tuple_cut ht hs pl pu (by rw [hlen]; exact hw) ?_ (by rw [hlen]; exact hz)
    rw [hlen]
    exact ⟨.ref s.heap.objs.size, _, I.laid (t' := s.toks) (o := .frz (tupObj _) (.tup (cutV xs lo hi))) (fun b ob q => Heap.get?_push_of_some _ q) (Nat.le_refl _) (tup_frz (Nat.le_trans (cutV_length xs lo hi) hz) ((r.drop (HT.sIx xs.length 0 lo)).take (HT.sIx xs.length xs.length hi - HT.sIx xs.length 0 lo))), rfl, q2 hw _ (I.hok.fresh (Nat.le_refl _)) _ rfl⟩
end
end DL

set_option Elab.async false
set_option linter.all false
set_option maxRecDepth 100000
set_option maxHeartbeats 4000000
set_option autoImplicit false
/-! Data layer, second part: what data are in the heap; the judgements. -/
namespace DL
open PySem PySem.Spec PyProof.Rows L2

/-- the heap F tells what stands for good, α where the store's objects are -/
inductive AllP {A B : Type} (R : A → B → Prop) : List A → List B → Prop
  | nil : AllP R [] []
  | cons {a b as bs} : R a b → AllP R as bs → AllP R (a :: as) (b :: bs)

inductive DKs : List Key → List D → Prop
  | nil : DKs [] []
  | int {i : Int} {ks : List Key} {ds : List D} : DKs ks ds → DKs (.inl i :: ks) (.int i :: ds)
  | str {x : Str} {ks : List Key} {ds : List D} : DKs ks ds → DKs (.inr x :: ks) (.str x :: ds)
theorem DKs.length : ∀ {ks : List Key} {ds : List D}, DKs ks ds → ks.length = ds.length
  | _, _, .nil => rfl
  | _, _, .int t => by rw [List.length_cons, List.length_cons, DKs.length t]
  | _, _, .str t => by rw [List.length_cons, List.length_cons, DKs.length t]
mutual
inductive DV (wd : World) (K : Fg) (mg : Str → Option Value) (F : Hp) (α : List Addr) : V → D → Prop
  | non : DV wd K mg F α .non .non
  | bl (b : Bool) : DV wd K mg F α (.bl b) (.bl b)
  | int (i : Int) : DV wd K mg F α (.int i) (.int i)
  | str (x : Str) : DV wd K mg F α (.str x) (.str x)
  | tux {a : Addr} {xs : List V} {ds : List D} : SqT K F a xs → DVs wd K mg F α xs ds → DV wd K mg F α (.ref a) (.tux ds)
  | tup {a : Addr} {xs : List V} {ds : List D} : PlT K F a xs → DVs wd K mg F α xs ds → DV wd K mg F α (.ref a) (.tup ds)
  | lst {a : Addr} {xs : List V} {ds : List D} : SqL K F a xs → DVs wd K mg F α xs ds → DV wd K mg F α (.ref a) (.lst ds)
  | ptr {k : Nat} {a : Addr} : α[k]? = some a → DV wd K mg F α (.ref a) (.ptr k)
  | fn {x : Str} {a : Addr} : mg x = some (.ref a) → DV wd K mg F α (.ref a) (.fn x)
  | ty (n : String) : DV wd K mg F α (.ty n) (.ty n)
inductive DVs (wd : World) (K : Fg) (mg : Str → Option Value) (F : Hp) (α : List Addr) : List V → List D → Prop
  | nil : DVs wd K mg F α [] []
  | cons {v : V} {d : D} {vs : List V} {ds : List D} : DV wd K mg F α v d → DVs wd K mg F α vs ds → DVs wd K mg F α (v :: vs) (d :: ds)
end

/-- more stands for good -/
def Sub (F F' : Hp) : Prop := ∀ a o, F a = some o → F' a = some o
theorem Sub.refl (F : Hp) : Sub F F := fun _ _ h => h
theorem Sub.trans {F F1 F2 : Hp} (a : Sub F F1) (b : Sub F1 F2) : Sub F F2 := fun x o h => b x o (a x o h)
theorem Sub.sqL {K : Fg} {F F' : Hp} {a : Addr} {xs : List V} (s : Sub F F') (h : SqL K F a xs) : SqL K F' a xs := by
  rcases h with (h | ⟨o, h⟩) | h
  · exact .inl (.inl (s _ _ h))
  · exact .inl (.inr ⟨o, s _ _ h⟩)
  · exact .inr h
theorem Sub.rd {F F' : Hp} {a : Addr} {u : HO} (s : Sub F F') (h : Rd F a u) : Rd F' a u := h.imp (s _ _) fun ⟨o, h⟩ => ⟨o, s _ _ h⟩
theorem Sub.sqT {K : Fg} {F F' : Hp} {a : Addr} {xs : List V} (s : Sub F F') (h : SqT K F a xs) : SqT K F' a xs := by
  rcases h with (h | ⟨o, h⟩) | h
  · exact .inl (.inl (s _ _ h))
  · exact .inl (.inr ⟨o, s _ _ h⟩)
  · exact .inr h
theorem Sub.plT {K : Fg} {F F' : Hp} {a : Addr} {xs : List V} (s : Sub F F') (h : PlT K F a xs) : PlT K F' a xs := ⟨s.sqT h.1, h.2.imp (fun ⟨o, e, q⟩ => ⟨o, s _ _ e, q⟩) id⟩
theorem Sub.new {F : Hp} {a : Addr} {o : HO} (h : F a = none) : Sub F (upd F a o) := fun b u e => by
  have : b ≠ a := fun z => by subst z; rw [h] at e; cases e
  rw [upd_ne this]; exact e

section
variable {wd : World} {K : Fg} {mg : Str → Option Value} {F F' : Hp} {α β : List Addr}
theorem at_app {A : Type} {l m : List A} {k : Nat} {a : A} (h : l[k]? = some a) : (l ++ m)[k]? = some a := by
  obtain ⟨hk, e⟩ := List.getElem?_eq_some_iff.mp h
  rw [List.getElem?_append_left hk]; exact h
mutual
theorem DV.mono {v : V} {d : D} (s : Sub F F') : DV wd K mg F α v d → DV wd K mg F' (α ++ β) v d
  | .non => .non
  | .bl b => .bl b
  | .int i => .int i
  | .str x => .str x
  | .tup h t => .tup (s.plT h) (DVs.mono s t)
  | .tux h t => .tux (s.sqT h) (DVs.mono s t)
  | .lst h t => .lst (s.sqL h) (DVs.mono s t)
  | .ptr h => .ptr (at_app h)
  | .fn h => .fn h
  | .ty n => .ty n
theorem DVs.mono {vs : List V} {ds : List D} (s : Sub F F') : DVs wd K mg F α vs ds → DVs wd K mg F' (α ++ β) vs ds
  | .nil => .nil
  | .cons h t => .cons (DV.mono s h) (DVs.mono s t)
end
theorem DVs.length : ∀ {vs : List V} {ds : List D}, DVs wd K mg F α vs ds → vs.length = ds.length
  | _, _, .nil => rfl
  | _, _, .cons _ t => by rw [List.length_cons, List.length_cons, DVs.length t]
theorem DVs.get : ∀ {vs : List V} {ds : List D} {i : Nat} {d : D}, DVs wd K mg F α vs ds → ds[i]? = some d → ∃ v, vs[i]? = some v ∧ DV wd K mg F α v d
  | _, _, _, _, .nil, e => by simp at e
  | _, _, 0, _, .cons h _, e => by simp at e; subst e; exact ⟨_, rfl, h⟩
  | _, _, i + 1, d, .cons _ t, e => by
    obtain ⟨v, h1, h2⟩ := DVs.get (i := i) (d := d) t (by simpa using e)
    exact ⟨v, by simpa using h1, h2⟩
theorem DVs.getV : ∀ {vs : List V} {ds : List D} {i : Nat} {v : V}, DVs wd K mg F α vs ds → vs[i]? = some v → ∃ d, ds[i]? = some d ∧ DV wd K mg F α v d
  | _, _, _, _, .nil, e => by simp at e
  | _, _, 0, _, .cons h _, e => by simp at e; subst e; exact ⟨_, rfl, h⟩
  | _, _, i + 1, v, .cons _ t, e => by
    obtain ⟨d, h1, h2⟩ := DVs.getV (i := i) (v := v) t (by simpa using e)
    exact ⟨d, by simpa using h1, h2⟩
theorem DVs.append : ∀ {vs ws : List V} {ds es : List D}, DVs wd K mg F α vs ds → DVs wd K mg F α ws es → DVs wd K mg F α (vs ++ ws) (ds ++ es)
  | _, _, _, _, .nil, s => s
  | _, _, _, _, .cons h t, s => .cons h (DVs.append t s)
theorem DVs.take : ∀ {vs : List V} {ds : List D} (n : Nat), DVs wd K mg F α vs ds → DVs wd K mg F α (vs.take n) (ds.take n)
  | _, _, 0, _ => .nil
  | _, _, _ + 1, .nil => .nil
  | _, _, n + 1, .cons h t => .cons h (DVs.take n t)
theorem DVs.drop : ∀ {vs : List V} {ds : List D} (n : Nat), DVs wd K mg F α vs ds → DVs wd K mg F α (vs.drop n) (ds.drop n)
  | _, _, 0, h => h
  | _, _, _ + 1, .nil => .nil
  | _, _, n + 1, .cons _ t => DVs.drop n t
theorem DVs.set {v : V} {d : D} (h : DV wd K mg F α v d) : ∀ {vs : List V} {ds : List D} (i : Nat), DVs wd K mg F α vs ds → DVs wd K mg F α (vs.set i v) (ds.set i d)
  | _, _, _, .nil => .nil
  | _, _, 0, .cons _ t => .cons h t
  | _, _, i + 1, .cons q t => .cons q (DVs.set h i t)
theorem DVs.eraseIdx : ∀ {vs : List V} {ds : List D} (i : Nat), DVs wd K mg F α vs ds → DVs wd K mg F α (vs.eraseIdx i) (ds.eraseIdx i)
  | _, _, _, .nil => .nil
  | _, _, 0, .cons _ t => t
  | _, _, i + 1, .cons q t => .cons q (DVs.eraseIdx i t)
theorem DVs.reverse {vs : List V} {ds : List D} (h : DVs wd K mg F α vs ds) : DVs wd K mg F α vs.reverse ds.reverse := by
  induction vs generalizing ds with
  | nil => cases h; exact .nil
  | cons v r ih =>
    cases h with
    | cons h t =>
      rw [List.reverse_cons, List.reverse_cons]
      exact DVs.append (ih t) (.cons h .nil)
theorem DVs.ints : ∀ {vs : List V} {ns : List Int}, DVs wd K mg F α vs (ns.map .int) → vs = ns.map .int
  | _, [], h => by cases h; rfl
  | _, n :: r, h => by
    cases h with
    | cons h t => cases h; rw [DVs.ints t]; rfl
theorem DVs.strs : ∀ {vs : List V} {ns : List Str}, DVs wd K mg F α vs (ns.map .str) → vs = ns.map .str
  | _, [], h => by cases h; rfl
  | _, n :: r, h => by
    cases h with
    | cons h t => cases h; rw [DVs.strs t]; rfl
theorem DVs.bls : ∀ {vs : List V} {ns : List Bool}, DVs wd K mg F α vs (ns.map .bl) → vs = ns.map .bl
  | _, [], h => by cases h; rfl
  | _, n :: r, h => by
    cases h with
    | cons h t => cases h; rw [DVs.bls t]; rfl
theorem DVs.of_ints : ∀ ns : List Int, DVs wd K mg F α (ns.map .int) (ns.map .int)
  | [] => .nil
  | n :: r => .cons (.int n) (DVs.of_ints r)
theorem DVs.of_strs : ∀ ns : List Str, DVs wd K mg F α (ns.map .str) (ns.map .str)
  | [] => .nil
  | n :: r => .cons (.str n) (DVs.of_strs r)
theorem DVs.of_bls : ∀ ns : List Bool, DVs wd K mg F α (ns.map .bl) (ns.map .bl)
  | [] => .nil
  | n :: r => .cons (.bl n) (DVs.of_bls r)
end

/-- values beside values -/
def NV : List (NestedKey × Addr × V) → List (NestedKey × Addr × Value) → Prop := Paired fun p q => p.1 = q.1 ∧ p.2.1 = q.2.1 ∧ RelV p.2.2 q.2.2
/-- a dict whose keys are tuples -/
def dN (w : World) (a : Addr) (xs : List (NestedKey × Addr × V)) : HO := .ext fun h => (a == sysModules) = false ∧ xs.length ≤ sizeLine ∧ (xs.map (·.1)).Nodup ∧ ∃ vs, NV xs vs ∧ ∃ o es ep, h.get? a = some o ∧ o.ExactDict ∧ o.data = .dict es ep ∧ es.toList = vs.map (fun x => (⟨x.1.hash w, .ref x.2.1, x.2.2⟩ : DictEntry))
/-- its pairs -/
inductive NVs (wd : World) (K : Fg) (mg : Str → Option Value) (F : Hp) (α : List Addr) : List (NestedKey × Addr × V) → List (D × D) → Prop
  | nil : NVs wd K mg F α [] []
  | cons {nk : NestedKey} {b : Addr} {v : V} {q d : D} {xs : List (NestedKey × Addr × V)} {kvs : List (D × D)} : keyN q = some nk → nk.depth ≤ 8 → DV wd K mg F α (.ref b) q → (∃ ds, q = .tup ds) → DV wd K mg F α v d → NVs wd K mg F α xs kvs → NVs wd K mg F α ((nk, b, v) :: xs) ((q, d) :: kvs)
theorem NVs.mono {wd : World} {K : Fg} {mg : Str → Option Value} {F F' : Hp} {α β : List Addr} {xs : List (NestedKey × Addr × V)} {kvs : List (D × D)} (s : Sub F F') (h : NVs wd K mg F α xs kvs) : NVs wd K mg F' (α ++ β) xs kvs := by
  induction h with
  | nil => exact .nil
  | cons h1 h2 h3 h4 h6 _ ih => exact .cons h1 h2 (h3.mono s) h4 (h6.mono s) ih
/-- the store's object at a is d -/
def Own (wd : World) (K : Fg) (mg : Str → Option Value) (F : Hp) (α : List Addr) (H : Hp) (a : Addr) : D → Prop
  | .lst ds => ∃ xs, H a = some (.lst xs) ∧ DVs wd K mg F α xs ds
  | .dct kvs => ∃ ws : List (Key × V), H a = some (.dK ws) ∧ DKs (ws.map (·.1)) (kvs.map (·.1)) ∧ DVs wd K mg F α (ws.map (·.2)) (kvs.map (·.2))
  | .dcn kvs => ∃ xs, H a = some (dN wd a xs) ∧ NVs wd K mg F α xs kvs
  | .lck (.dct kvs) => ∃ o, ∃ ws : List (Key × V), F a = some (.frz o (.dK ws)) ∧ H a = some (.frz o (.dK ws)) ∧ DKs (ws.map (·.1)) (kvs.map (·.1)) ∧ DVs wd K mg F α (ws.map (·.2)) (kvs.map (·.2))
  | .lck (.dcn kvs) => ∃ o xs, F a = some (.frz o (dN wd a xs)) ∧ H a = some (.frz o (dN wd a xs)) ∧ NVs wd K mg F α xs kvs
  | .non => True
  | _ => False
structure Rel (wd : World) (K : Fg) (mg : Str → Option Value) (α : List Addr) (F H : Hp) (S : Sto) : Prop where
  sub : Sub F H
  len : α.length = S.length
  nd : α.Nodup
  here : ∀ a ∈ α, ∃ o, H a = some o
  own : ∀ (k : Nat) (a : Addr) (d : D), α[k]? = some a → S[k]? = some d → Own wd K mg F α H a d ∧ (d.open = true → F a = none)
/-- what stood and isn't the store's stands -/
structure Stp (α : List Addr) (F H : Hp) (β : List Addr) (F' H' : Hp) : Prop where
  new : ∀ b ∈ β, H b = none
  sub : Sub F F'
  frame : ∀ a o, a ∉ α → H a = some o → H' a = some o
  live : ∀ a, H' a = none → H a = none
  fnew : ∀ a, a ∉ α → F a = none → H a ≠ none → F' a = none
theorem Stp.refl {α : List Addr} {F H : Hp} : Stp α F H [] F H := ⟨(fun _ h => nomatch h), Sub.refl F, fun _ _ _ h => h, fun _ h => h, fun _ _ h _ => h⟩
theorem Stp.trans {α β γ : List Addr} {F H F1 H1 F2 H2 : Hp} (a : Stp α F H β F1 H1) (b : Stp (α ++ β) F1 H1 γ F2 H2) : Stp α F H (β ++ γ) F2 H2 := by
  have fr : ∀ x o, x ∉ α → H x = some o → H2 x = some o := fun x o n e => b.frame x o (fun z => by
    rcases List.mem_append.mp z with z | z
    · exact n z
    · rw [a.new x z] at e; cases e) (a.frame x o n e)
  refine ⟨fun x hx => ?_, a.sub.trans b.sub, fr, fun x h => a.live x (b.live x h), fun x h1 h2 h3 => b.fnew x (fun z => ?_) (a.fnew x h1 h2 h3) fun z => h3 (a.live x z)⟩
  rotate_left
  · rcases List.mem_append.mp z with z | z
    · exact h1 z
    · exact h3 (a.new x z)
  rcases List.mem_append.mp hx with z | z
  · exact a.new x z
  · exact a.live x (b.new x z)
section
variable {wd : World} {K : Fg} {mg : Str → Option Value} {α β : List Addr} {F F' H H' : Hp} {S S' : Sto}
theorem Own.mono {a : Addr} {d : D} (s : Sub F F') (e : H' a = H a) (h : Own wd K mg F α H a d) : Own wd K mg F' (α ++ β) H' a d := by
  cases d with
  | lst ds => obtain ⟨xs, h1, h2⟩ := h; exact ⟨xs, e.trans h1, h2.mono s⟩
  | dct kvs => obtain ⟨ws, h1, h2, h3⟩ := h; exact ⟨ws, e.trans h1, h2, h3.mono s⟩
  | dcn kvs => obtain ⟨ws, h1, h2⟩ := h; exact ⟨ws, e.trans h1, h2.mono s⟩
  | lck u =>
    cases u with
    | dct kvs => obtain ⟨o, ws, h0, h1, h2, h3⟩ := h; exact ⟨o, ws, s _ _ h0, e.trans h1, h2, h3.mono s⟩
    | dcn kvs => obtain ⟨o, ws, h0, h1, h2⟩ := h; exact ⟨o, ws, s _ _ h0, e.trans h1, h2.mono s⟩
    | _ => exact h.elim
  | non => trivial
  | _ => exact h.elim
theorem Rel.notF (r : Rel wd K mg α F H S) {p : Addr} (hp : H p = none) : F p = none := by
  cases e : F p with
  | none => rfl
  | some u => rw [r.sub _ _ e] at hp; cases hp
theorem Rel.notin (r : Rel wd K mg α F H S) {p : Addr} (hp : H p = none) : p ∉ α := fun h => by
  obtain ⟨o, e⟩ := r.here p h
  rw [hp] at e; cases e
theorem upd_some {H : Hp} {p a : Addr} {o u : HO} (hp : H p = none) (e : H a = some u) : upd H p o a = some u := by
  have z : a ≠ p := fun z => by subst z; rw [hp] at e; cases e
  rw [upd_ne z]; exact e
theorem upd_none {H : Hp} {p a : Addr} {o : HO} (h : upd H p o a = none) : H a = none := by
  by_cases z : a = p
  · subst z; rw [upd_same] at h; cases h
  · rw [upd_ne z] at h; exact h
theorem Sub.upd {F H : Hp} {p : Addr} {o : HO} (s : Sub F H) : Sub (upd F p o) (L2.upd H p o) := fun a u e => by
  by_cases z : a = p
  · subst z; rw [upd_same] at e ⊢; exact e
  · rw [upd_ne z] at e ⊢; exact s _ _ e
theorem Stp.ofNew {p : Addr} {o : HO} (hp : H p = none) (sb : Sub F F') (h : ∀ b ∈ β, b = p) (hf : ∀ a, a ≠ p → F a = none → F' a = none) : Stp α F H β F' (upd H p o) :=
  ⟨fun b hb => by rw [h b hb]; exact hp, sb, fun a u _ e => upd_some hp e, fun a e => upd_none e, fun a _ h2 h3 => hf a (fun z => h3 (z ▸ hp)) h2⟩
theorem Rel.other (r : Rel wd K mg α F H S) {p : Addr} {o : HO} (hp : p ∉ α) (hf : F p = none) : Rel wd K mg α F (upd H p o) S := by
  refine ⟨fun a u e => ?_, r.len, r.nd, fun a h => ?_, fun k a d h1 h2 => ?_⟩
  · have z : a ≠ p := fun z => by subst z; rw [hf] at e; cases e
    rw [upd_ne z]; exact r.sub _ _ e
  · have z : a ≠ p := fun z => hp (z ▸ h)
    obtain ⟨u, e⟩ := r.here a h
    exact ⟨u, by rw [upd_ne z]; exact e⟩
  · obtain ⟨h3, h4⟩ := r.own k a d h1 h2
    have z : a ≠ p := fun z => hp (z ▸ List.mem_of_getElem? h1)
    have h5 : Own wd K mg F (α ++ []) (upd H p o) a d := h3.mono (Sub.refl F) (upd_ne z)
    rw [List.append_nil] at h5
    exact ⟨h5, h4⟩
theorem Stp.other (s : Stp α F H β F' H') {p : Addr} {o : HO} (hp : H p = none) : Stp α F H β F' (upd H' p o) := by
  refine ⟨s.new, s.sub, fun a u h e => ?_, fun a e => s.live a (upd_none e), s.fnew⟩
  have z : a ≠ p := fun z => by subst z; rw [hp] at e; cases e
  rw [upd_ne z]; exact s.frame a u h e
/-- a new thing that stands for good -/
theorem Rel.newF (r : Rel wd K mg α F H S) {p : Addr} {o : HO} (hp : H p = none) : Rel wd K mg (α ++ []) (upd F p o) (upd H p o) S ∧ Stp α F H [] (upd F p o) (upd H p o) := by
  have hF := r.notF hp
  have sb : Sub F (upd F p o) := Sub.new hF
  refine ⟨⟨r.sub.upd, by rw [List.append_nil]; exact r.len, by rw [List.append_nil]; exact r.nd, fun a h => ?_, fun k a d h1 h2 => ?_⟩, Stp.ofNew hp sb (fun _ h => nomatch h) fun a z e => by rw [upd_ne z]; exact e⟩
  · rw [List.append_nil] at h
    obtain ⟨u, e⟩ := r.here a h
    exact ⟨u, upd_some hp e⟩
  · rw [List.append_nil] at h1
    obtain ⟨h3, h4⟩ := r.own k a d h1 h2
    have z : a ≠ p := fun z => r.notin hp (z ▸ List.mem_of_getElem? h1)
    exact ⟨h3.mono sb (upd_ne z), fun hd => by rw [upd_ne z]; exact h4 hd⟩
/-- a new thing of the store -/
theorem Rel.newO (r : Rel wd K mg α F H S) {p : Addr} {o : HO} {d : D} (hp : H p = none) (hd : Own wd K mg F (α ++ [p]) (upd H p o) p d) : Rel wd K mg (α ++ [p]) F (upd H p o) (S ++ [d]) ∧ Stp α F H [p] F (upd H p o) := by
  have hF := r.notF hp
  refine ⟨⟨fun a u e => upd_some hp (r.sub _ _ e), by rw [List.length_append, List.length_append, r.len]; rfl, ?_, fun a h => ?_, fun k a e h1 h2 => ?_⟩, Stp.ofNew hp (Sub.refl F) (fun b h => by simpa using h) fun a _ e => e⟩
  · refine List.nodup_append.mpr ⟨r.nd, by simp, fun a ha b hb z => ?_⟩
    have : b = p := by simpa using hb
    subst this; subst z
    exact r.notin hp ha
  · rcases List.mem_append.mp h with h | h
    · obtain ⟨u, e⟩ := r.here a h
      exact ⟨u, upd_some hp e⟩
    · have : a = p := by simpa using h
      subst this
      exact ⟨_, upd_same⟩
  · have hk : k < (α ++ [p]).length := (List.getElem?_eq_some_iff.mp h1).1
    by_cases q : k < α.length
    · rw [List.getElem?_append_left q] at h1
      rw [List.getElem?_append_left (by rw [← r.len]; exact q)] at h2
      obtain ⟨h3, h4⟩ := r.own k a e h1 h2
      have z : a ≠ p := fun z => r.notin hp (z ▸ List.mem_of_getElem? h1)
      exact ⟨h3.mono (Sub.refl F) (upd_ne z), h4⟩
    · have hk' : k = α.length := by rw [List.length_append] at hk; simp at hk; omega
      subst hk'
      rw [List.getElem?_append_right (Nat.le_refl _), Nat.sub_self] at h1
      rw [r.len, List.getElem?_append_right (Nat.le_refl _), Nat.sub_self] at h2
      simp at h1 h2
      subst h1; subst h2
      exact ⟨hd, fun _ => hF⟩
/-- the store's object k is changed -/
theorem Rel.setO (r : Rel wd K mg α F H S) {k : Nat} {a : Addr} {o : HO} {d e : D} (h1 : α[k]? = some a) (h2 : S[k]? = some e) (he : e.open = true) (hd : Own wd K mg F α (upd H a o) a d) :
    Rel wd K mg (α ++ []) F (upd H a o) (S.set k d) ∧ Stp α F H [] F (upd H a o) := by
  obtain ⟨_, q⟩ := r.own k a e h1 h2
  have hF := q he
  have hn := r.nd
  have ha : a ∈ α := List.mem_of_getElem? h1
  refine ⟨⟨fun b u e => ?_, by rw [List.append_nil, List.length_set]; exact r.len, by rw [List.append_nil]; exact r.nd, fun b h => ?_, fun j b u g1 g2 => ?_⟩, ⟨(fun _ h => nomatch h), Sub.refl F, fun b u hb e => ?_, fun b e => upd_none e, fun _ _ h _ => h⟩⟩
  · have z : b ≠ a := fun z => by subst z; rw [hF] at e; cases e
    rw [upd_ne z]; exact r.sub _ _ e
  · rw [List.append_nil] at h
    by_cases z : b = a
    · subst z; exact ⟨_, upd_same⟩
    · obtain ⟨u, e⟩ := r.here b h
      exact ⟨u, by rw [upd_ne z]; exact e⟩
  · rw [List.append_nil] at g1
    by_cases z : j = k
    · subst z
      rw [h1] at g1; cases g1
      rw [List.getElem?_set_self (List.getElem?_eq_some_iff.mp h2).1] at g2
      cases g2
      rw [List.append_nil]
      exact ⟨hd, fun _ => hF⟩
    · rw [List.getElem?_set_ne (Ne.symm z)] at g2
      obtain ⟨h3, h4⟩ := r.own j b u g1 g2
      have y : b ≠ a := fun y => by
        subst y
        exact z ((List.getElem_inj hn).mp ((List.getElem?_eq_some_iff.mp g1).2.trans (List.getElem?_eq_some_iff.mp h1).2.symm))
      exact ⟨h3.mono (Sub.refl F) (upd_ne y), h4⟩
  · have z : b ≠ a := fun z => hb (z ▸ ha)
    rw [upd_ne z]; exact e
end

section
variable {wd : World} {K : Fg} {mg : Str → Option Value} {α β : List Addr} {F F' H H' : Hp} {S S' : Sto}
/-- a thing that stands by itself becomes the store's -/
theorem Rel.adopt (r : Rel wd K mg α F H S) {p : Addr} {d : D} (hp : p ∉ α) (hf : F p = none) (hd : Own wd K mg F α H p d) (hn : d.open = true) : Rel wd K mg (α ++ [p]) F H (S ++ [d]) := by
  have ex : ∃ o, H p = some o := by
    cases d with
    | lst ds => obtain ⟨xs, e, _⟩ := hd; exact ⟨_, e⟩
    | dct kvs => obtain ⟨xs, e, _⟩ := hd; exact ⟨_, e⟩
    | dcn kvs => obtain ⟨xs, e, _⟩ := hd; exact ⟨_, e⟩
    | non => cases hn
    | lck _ => cases hn
    | _ => exact hd.elim
  refine ⟨r.sub, by rw [List.length_append, List.length_append, r.len]; rfl, ?_, fun a h => ?_, fun k a e h1 h2 => ?_⟩
  · refine List.nodup_append.mpr ⟨r.nd, by simp, fun a ha b hb z => ?_⟩
    have : b = p := by simpa using hb
    subst this; subst z
    exact hp ha
  · rcases List.mem_append.mp h with h | h
    · exact r.here a h
    · have : a = p := by simpa using h
      subst this
      exact ex
  · have hk : k < (α ++ [p]).length := (List.getElem?_eq_some_iff.mp h1).1
    by_cases q : k < α.length
    · rw [List.getElem?_append_left q] at h1
      rw [List.getElem?_append_left (by rw [← r.len]; exact q)] at h2
      obtain ⟨h3, h4⟩ := r.own k a e h1 h2
      exact ⟨h3.mono (Sub.refl F) rfl, h4⟩
    · have hk' : k = α.length := by rw [List.length_append] at hk; simp at hk; omega
      subst hk'
      rw [List.getElem?_append_right (Nat.le_refl _), Nat.sub_self] at h1
      rw [r.len, List.getElem?_append_right (Nat.le_refl _), Nat.sub_self] at h2
      simp at h1 h2
      subst h1; subst h2
      exact ⟨hd.mono (Sub.refl F) rfl, fun _ => hf⟩
/-- a thing that stands by itself stands for good -/
theorem Rel.freeze (r : Rel wd K mg α F H S) {p : Addr} {o : HO} (hp : p ∉ α) (hf : F p = none) (ho : H p = some o) : Rel wd K mg α (upd F p o) H S ∧ Sub F (upd F p o) := by
  have sb : Sub F (upd F p o) := Sub.new hf
  refine ⟨⟨fun a u e => ?_, r.len, r.nd, r.here, fun k a d h1 h2 => ?_⟩, sb⟩
  · by_cases z : a = p
    · subst z; rw [upd_same] at e; rw [ho]; exact e
    · rw [upd_ne z] at e; exact r.sub _ _ e
  · obtain ⟨h3, h4⟩ := r.own k a d h1 h2
    have z : a ≠ p := fun z => hp (z ▸ List.mem_of_getElem? h1)
    have h5 : Own wd K mg (upd F p o) (α ++ []) H a d := h3.mono sb rfl
    rw [List.append_nil] at h5
    exact ⟨h5, fun hd => by rw [upd_ne z]; exact h4 hd⟩
end
/-! ### what is wanted of a result -/
def ErrAt (wd : World) (K : Fg) (mg : Str → Option Value) (F : Hp) (α : List Addr) (c : Str) (fs : List (Str × D)) (cls : Value) (dd : Option Addr) (H : Hp) : Prop :=
  mg c = some cls ∧ (fs = [] ∨ ∃ d xs, dd = some d ∧ H d = some (.xd xs) ∧ xs.map (·.1) = fs.map (·.1) ∧ DVs wd K mg F α (xs.map (·.2)) (fs.map (·.2)))
abbrev RelT (B A : Type) := Hp → List Addr → B → A → Prop
def wp {A B : Type} (wd : World) (K : Fg) (mg : Str → Option Value) (α : List Addr) (F H : Hp) (rel : RelT B A) (r : Res A) (Q : B → Hp → Prop) (W : XK) : Prop := match r with
  | .ok a S' => ∀ b H' β F', Rel wd K mg (α ++ β) F' H' S' → Stp α F H β F' H' → rel F' (α ++ β) b a → Q b H'
  | .err c fs S' => ∀ cls dd H' β F', Rel wd K mg (α ++ β) F' H' S' → Stp α F H β F' H' → ErrAt wd K mg F' (α ++ β) c fs cls dd H' → W cls dd H'
  | .stuck => False
section
variable {A B A' B' : Type} {wd : World} {K : Fg} {mg : Str → Option Value} {α β : List Addr} {F F1 H H1 : Hp} {S : Sto} {rel : RelT B A} {rel' : RelT B' A'} {r : Res A} {Q Q1 : B → Hp → Prop} {Q' : B' → Hp → Prop} {W : XK}
theorem wp.step (st : Stp α F H β F1 H1) (h : wp wd K mg α F H rel r Q W) : wp wd K mg (α ++ β) F1 H1 rel r Q W := by
  cases r with
  | ok a S' => intro b H' γ F' hr hs hv; rw [List.append_assoc] at hr hv; exact h b H' (β ++ γ) F' hr (st.trans hs) hv
  | err c fs S' => intro cls dd H' γ F' hr hs hv; rw [List.append_assoc] at hr hv; exact h cls dd H' (β ++ γ) F' hr (st.trans hs) hv
  | stuck => exact h
theorem wp.bind {f : A → Sto → Res A'} (h : wp wd K mg α F H rel' (r.bind f) Q' W)
    (k : ∀ a S1, r = .ok a S1 → ∀ x H1 β F1, Rel wd K mg (α ++ β) F1 H1 S1 → Stp α F H β F1 H1 → rel F1 (α ++ β) x a → wp wd K mg (α ++ β) F1 H1 rel' (f a S1) Q' W → Q1 x H1) : wp wd K mg α F H rel r Q1 W := by
  cases r with
  | ok a S' => exact fun b H' β F' hr hs hv => k a S' rfl b H' β F' hr hs hv (wp.step hs h)
  | err c fs S' => exact h
  | stuck => exact h
theorem wp.imp (h : wp wd K mg α F H rel r Q W) (k : ∀ b H', Q b H' → Q1 b H') : wp wd K mg α F H rel r Q1 W := by
  cases r with
  | ok a S' => exact fun b H' β F' hr hs hv => k b H' (h b H' β F' hr hs hv)
  | err c fs S' => exact h
  | stuck => exact h
/-- a result that is at hand -/
theorem wp.now {a : A} (h : wp wd K mg α F H rel (.ok a S) Q W) (hr : Rel wd K mg α F H S) {b : B} (hv : rel F α b a) : Q b H := by
  have e : α ++ [] = α := List.append_nil α
  exact h b H [] F (by rw [e]; exact hr) Stp.refl (by rw [e]; exact hv)
theorem wp.lift {o : Option A} (h : wp wd K mg α F H rel (.lift o S) Q W) : ∃ a, o = some a ∧ wp wd K mg α F H rel (.ok a S) Q W := by
  cases o with
  | some a => exact ⟨a, rfl, h⟩
  | none => exact h.elim
end
def Slots (wd : World) (K : Fg) (mg : Str → Option Value) (F : Hp) (α : List Addr) (σ : L2.St) (δ : Sl) : Prop :=
  σ.length = δ.length ∧ ∀ (i : Nat) (d : D), δ[i]? = some (some d) → ∃ v, σ[i]? = some (some v) ∧ DV wd K mg F α v d
theorem Slots.mono {wd : World} {K : Fg} {mg : Str → Option Value} {F F' : Hp} {α β : List Addr} {σ : L2.St} {δ : Sl} (h : Slots wd K mg F α σ δ) (s : Sub F F') : Slots wd K mg F' (α ++ β) σ δ :=
  ⟨h.1, fun i d e => let ⟨v, h1, h2⟩ := h.2 i d e; ⟨v, h1, h2.mono s⟩⟩
theorem Slots.set {wd : World} {K : Fg} {mg : Str → Option Value} {F : Hp} {α : List Addr} {σ : L2.St} {δ : Sl} {i : Nat} {v : V} {d : D} (h : Slots wd K mg F α σ δ) (hv : DV wd K mg F α v d) : Slots wd K mg F α (σ.set i (some v)) (δ.set i (some d)) := by
  refine ⟨by rw [List.length_set, List.length_set]; exact h.1, fun j e g => ?_⟩
  by_cases z : j = i
  · subst z
    have hj : j < δ.length := by
      have := (List.getElem?_eq_some_iff.mp g).1
      rw [List.length_set] at this; exact this
    rw [List.getElem?_set_self hj] at g
    cases g
    exact ⟨v, List.getElem?_set_self (by rw [h.1]; exact hj), hv⟩
  · rw [List.getElem?_set_ne (Ne.symm z)] at g
    rw [List.getElem?_set_ne (Ne.symm z)]
    exact h.2 j e g
def relD (wd : World) (K : Fg) (mg : Str → Option Value) : RelT V D := fun F α v d => DV wd K mg F α v d
def relB : RelT Bool Bool := fun _ _ b a => b = a
def relA (wd : World) (K : Fg) (mg : Str → Option Value) : RelT (List V) (List D) := fun F α v d => DVs wd K mg F α v d

def SndE (wd : World) (K : Fg) (mg : Str → Option Value) (W : WX) (t : TE) (r : RE) : Prop := ∀ α F σ H δ S (Q : VK), Rel wd K mg α F H S → Slots wd K mg F α σ δ → wp wd K mg α F H (relD wd K mg) (r δ S) Q (fun c d H' => W c d σ H') → t σ H Q
def SndB (wd : World) (K : Fg) (mg : Str → Option Value) (W : WX) (t : TT) (r : RB) : Prop := ∀ α F σ H δ S (Q : Bool → Hp → Prop), Rel wd K mg α F H S → Slots wd K mg F α σ δ → wp wd K mg α F H relB (r δ S) Q (fun c d H' => W c d σ H') → t σ H Q
def SndA (wd : World) (K : Fg) (mg : Str → Option Value) (W : WX) (t : TA) (r : RA) : Prop := ∀ α F σ H δ S (Q : List V → Hp → Prop), Rel wd K mg α F H S → Slots wd K mg F α σ δ → wp wd K mg α F H (relA wd K mg) (r δ S) Q (fun c d H' => W c d σ H') → t σ H Q
/-- an expression, a test, arguments by their mirrors -/
structure PD (X : Cx) (W : WX) (e : Expr) (r : RE) : Prop where
  ex : ∃ t, PE X e t ∧ SndE X.w X.K X.mg W t r
structure PB (X : Cx) (W : WX) (e : Expr) (r : RB) : Prop where
  ex : ∃ t, PT X e t ∧ SndB X.w X.K X.mg W t r
structure PBw (X : Cx) (W : WX) (e : Expr) (r : RB) : Prop where
  ex : ∃ t, PW X e t ∧ SndB X.w X.K X.mg W t r
structure PDs (X : Cx) (W : WX) (es : List Expr) (r : RA) : Prop where
  ex : ∃ t, PA X es t ∧ SndA X.w X.K X.mg W t r
  len : ∀ δ S ds S', r δ S = .ok ds S' → ds.length = es.length

section
variable {X : Cx} {W : WX} {a b c e : Expr} {es rest : List Expr} {ra rb rc : RE} {ba bb : RB} {rs : RA} {pos p : Pos}
theorem pd_var (i : Nat) {x : Str} {pos : Pos} (hN : X.N[i]? = some x := by rfl) (hv : Vis X.env.scope x := by first | exact Or.inl rfl | exact Or.inr (Or.inl rfl) | exact Or.inr (Or.inr rfl)) (hd : (x == ("__debug__" : Str)) = false := by decide) (hcd : (x == ("__classdict__" : Str)) = false := by decide) : PD X W (.Name x pos) (rVar i) := by
  refine ⟨tVar i, pe_var hN hv hd hcd, fun α F σ H δ S Q hr hs h => ?_⟩
  unfold rVar at h
  split at h
  · rename_i d e
    obtain ⟨v, h1, h2⟩ := hs.2 i d e
    exact ⟨v, h1, h.now hr h2⟩
  · exact h.elim
theorem pd_c {d : D} {v : V} (h : PE X e (tC v)) (hv : ∀ F α, DV X.w X.K X.mg F α v d) : PD X W e (rC d) := ⟨tC v, h, fun α F σ H δ S Q hr hs h => h.now hr (hv F α)⟩
theorem pd_int {i : Int} {j : Nat} : PD X W (.Constant (.int i) j pos) (rC (.int i)) := pd_c pe_int fun _ _ => .int i
theorem pd_bl {i : Bool} {j : Nat} : PD X W (.Constant (.bool i) j pos) (rC (.bl i)) := pd_c pe_bl fun _ _ => .bl i
theorem pd_non {j : Nat} : PD X W (.Constant .none j pos) (rC .non) := pd_c pe_non fun _ _ => .non
theorem pd_str {x : Str} {j : Nat} : PD X W (.Constant (.str x) j pos) (rC (.str x)) := pd_c pe_str fun _ _ => .str x
/-- a module's constant: an int, a text -/
theorem pd_gi {x : Str} {i : Int} {t : Tok} (hm : X.mg x = some (.int i t)) (hg : Gl X x := by rfl) (hd : (x == ("__debug__" : Str)) = false := by decide) : PD X W (.Name x pos) (rC (.int i)) := pd_c (v := .int i) (pe_glob hg hm ⟨t, rfl⟩ hd) fun _ _ => .int i
theorem pd_gs {x y : Str} {t : Tok} (hm : X.mg x = some (.str y t)) (hg : Gl X x := by rfl) (hd : (x == ("__debug__" : Str)) = false := by decide) : PD X W (.Name x pos) (rC (.str y)) := pd_c (v := .str y) (pe_glob hg hm ⟨t, rfl⟩ hd) fun _ _ => .str y

/-! operators by values -/
def OkG (X : Cx) (r : R2) (g : Sto → D → D → Option D) : Prop := ∀ α F H S (x y : V) (d e z : D) (Q : VK), Rel X.w X.K X.mg α F H S → DV X.w X.K X.mg F α x d → DV X.w X.K X.mg F α y e → g S d e = some z →
  (∀ v H' β F', Rel X.w X.K X.mg (α ++ β) F' H' S → Stp α F H β F' H' → DV X.w X.K X.mg F' (α ++ β) v z → Q v H') → r x y H Q
structure OpG (X : Cx) (f : Value → Value → Sem Value) (g : Sto → D → D → Option D) : Prop where
  ex : ∃ r, OpR X f r ∧ OkG X r g
theorem SndE.bin {wd : World} {K : Fg} {mg : Str → Option Value} {ta tb : TE} {g : Sto → D → D → Option D} {k : V → V → Hp → VK → Prop} (sa : SndE wd K mg W ta ra) (sb : SndE wd K mg W tb rb)
    (hk : ∀ α F H S (x y : V) (d e z : D) (Q : VK), Rel wd K mg α F H S → DV wd K mg F α x d → DV wd K mg F α y e → g S d e = some z →
      (∀ v H' β F', Rel wd K mg (α ++ β) F' H' S → Stp α F H β F' H' → DV wd K mg F' (α ++ β) v z → Q v H') → k x y H Q) :
    SndE wd K mg W (fun σ H Q => ta σ H fun x H1 => tb σ H1 fun y H2 => k x y H2 Q) (rBin g ra rb) := by
  intro α F σ H δ S Q hr hs h
  refine sa α F σ H δ S _ hr hs (wp.bind h fun d S1 _ x H1 β F1 r1 s1 v1 h1 => ?_)
  refine sb (α ++ β) F1 σ H1 δ S1 _ r1 (hs.mono s1.sub) (wp.bind h1 fun e S2 _ y H2 γ F2 r2 s2 v2 h2 => ?_)
  obtain ⟨z, e1, h3⟩ := wp.lift h2
  exact hk (α ++ β ++ γ) F2 H2 S2 x y d e z Q r2 (v1.mono s2.sub) v2 e1 fun v H' ε F' r3 s3 v3 => h3 v H' ε F' r3 s3 v3
theorem pd_bin {op : Operator} {g : Sto → D → D → Option D} (ho : OpG X (binaryOp op) g) (ha : PD X W a ra) (hb : PD X W b rb) : PD X W (.BinOp a op b pos) (rBin g ra rb) := by
  obtain ⟨r, h1, h2⟩ := ho.ex
  obtain ⟨ta, pa, sa⟩ := ha.ex
  obtain ⟨tb, pb, sb⟩ := hb.ex
  exact ⟨_, pe_op h1 pa pb, sa.bin sb h2⟩
theorem pd_cmp {op : CmpOp} {g : Sto → D → D → Option D} (ho : OpG X (compareOp op) g) (ha : PD X W a ra) (hb : PD X W b rb) (hm : behindInMarks op b = false) : PD X W (.Compare a [op] [b] pos) (rBin g ra rb) := by
  obtain ⟨r, h1, h2⟩ := ho.ex
  obtain ⟨ta, pa, sa⟩ := ha.ex
  obtain ⟨tb, pb, sb⟩ := hb.ex
  exact ⟨_, pe_cmpR h1 pa pb hm, sa.bin sb h2⟩
/-- the truth of a True or False -/
def bVal (a : RE) : RB := fun δ S => (a δ S).bind fun x S1 => match x with
  | .bl b => .ok b S1
  | _ => .stuck
theorem SndE.val {wd : World} {K : Fg} {mg : Str → Option Value} {t : TE} (s : SndE wd K mg W t ra) : SndB wd K mg W (tTest t) (bVal ra) := by
  intro α F σ H δ S Q hr hs h
  refine s α F σ H δ S _ hr hs (wp.bind h fun d S1 _ x H1 β F1 r1 s1 v1 h1 => ?_)
  cases d with
  | bl b => cases v1; exact ⟨b, rfl, h1.now r1 rfl⟩
  | _ => exact h1.elim
theorem pb_cmp {op : CmpOp} {g : Sto → D → D → Option D} (ho : OpG X (compareOp op) g) (ha : PD X W a ra) (hb : PD X W b rb) (hm : behindInMarks op b = false) : PB X W (.Compare a [op] [b] pos) (bVal (rBin g ra rb)) := by
  obtain ⟨r, h1, h2⟩ := ho.ex
  obtain ⟨ta, pa, sa⟩ := ha.ex
  obtain ⟨tb, pb, sb⟩ := hb.ex
  exact ⟨_, pt_cmpR h1 pa pb hm, (sa.bin sb h2).val⟩
end
end DL

set_option Elab.async false
set_option linter.all false
set_option maxRecDepth 100000
set_option maxHeartbeats 4000000
set_option autoImplicit false
/-! Data layer, third part: calls, tests, statements, loops, comprehensions, defs. -/
namespace DL
open PySem PySem.Spec PyProof.Rows L2

section
variable {X : Cx} {W : WX} {a b c e : Expr} {es rest : List Expr} {ra rb rc : RE} {ba bb : RB} {rs : RA} {pos p : Pos} {wd : World} {K : Fg} {mg : Str → Option Value}
/-! ### one value -/
def OkU (X : Cx) (r : V → Hp → VK → Prop) (g : Sto → D → Option D) : Prop := ∀ α F H S (x : V) (d z : D) (Q : VK), Rel X.w X.K X.mg α F H S → DV X.w X.K X.mg F α x d → g S d = some z →
  (∀ v H' β F', Rel X.w X.K X.mg (α ++ β) F' H' S → Stp α F H β F' H' → DV X.w X.K X.mg F' (α ++ β) v z → Q v H') → r x H Q
theorem SndE.un {ta : TE} {g : Sto → D → Option D} {k : V → Hp → VK → Prop} (sa : SndE wd K mg W ta ra)
    (hk : ∀ α F H S (x : V) (d z : D) (Q : VK), Rel wd K mg α F H S → DV wd K mg F α x d → g S d = some z → (∀ v H' β F', Rel wd K mg (α ++ β) F' H' S → Stp α F H β F' H' → DV wd K mg F' (α ++ β) v z → Q v H') → k x H Q) :
    SndE wd K mg W (fun σ H Q => ta σ H fun x H1 => k x H1 Q) (rUn g ra) := by
  intro α F σ H δ S Q hr hs h
  refine sa α F σ H δ S _ hr hs (wp.bind h fun d S1 _ x H1 β F1 r1 s1 v1 h1 => ?_)
  obtain ⟨z, e1, h3⟩ := wp.lift h1
  exact hk (α ++ β) F1 H1 S1 x d z Q r1 v1 e1 fun v H' ε F' r3 s3 v3 => h3 v H' ε F' r3 s3 v3
theorem pd_un {op : UnaryOp} {r : V → Hp → VK → Prop} {g : Sto → D → Option D} (ho : UnR X (unaryOp op) r) (hg : OkU X r g) (ha : PD X W a ra) : PD X W (.UnaryOp op a pos) (rUn g ra) := by
  obtain ⟨ta, pa, sa⟩ := ha.ex
  exact ⟨_, pe_un ho pa, sa.un hg⟩

/-! ### arguments, displays -/
theorem pds_nil : PDs X W [] rNil := ⟨⟨tNil, pa_nil, fun α F σ H δ S Q hr hs h => h.now hr .nil⟩, fun δ S ds S' h => by cases h; rfl⟩
theorem SndE.cons {te : TE} {t : TA} (s1 : SndE wd K mg W te ra) (s2 : SndA wd K mg W t rs) : SndA wd K mg W (tCons te t) (rCons ra rs) := by
  intro α F σ H δ S Q hr hs h
  refine s1 α F σ H δ S _ hr hs (wp.bind h fun d S1 _ x H1 β F1 r1 q1 v1 h1 => ?_)
  refine s2 (α ++ β) F1 σ H1 δ S1 _ r1 (hs.mono q1.sub) (wp.bind h1 fun e S2 _ y H2 γ F2 r2 q2 v2 h2 => ?_)
  exact h2.now r2 (.cons (v1.mono q2.sub) v2)
theorem pds_cons (ha : PD X W e ra) (hr : PDs X W es rs) (hs : starEach (e :: es) X.env = (false, eval e X.env) :: starEach es X.env := by rfl) : PDs X W (e :: es) (rCons ra rs) := by
  obtain ⟨ta, pa, sa⟩ := ha.ex
  obtain ⟨t, pt, st⟩ := hr.ex
  refine ⟨⟨_, pa_cons pa pt hs, sa.cons st⟩, fun δ S ds S' h => ?_⟩
  unfold rCons at h
  cases q : ra δ S with
  | ok d S1 =>
    rw [q] at h
    have h' : (rs δ S1).bind (fun ys S2 => .ok (d :: ys) S2) = .ok ds S' := h
    cases q2 : rs δ S1 with
    | ok ys S2 =>
      rw [q2] at h'
      have h2 : Res.ok (d :: ys) S2 = .ok ds S' := h'
      cases h2
      rw [List.length_cons, List.length_cons, hr.len _ _ _ _ q2]
    | err c fs S2 => rw [q2] at h'; cases h'
    | stuck => rw [q2] at h'; cases h'
  | err c fs S1 => rw [q] at h; cases h
  | stuck => rw [q] at h; cases h
/-- a new tuple, a new list at p -/
theorem PlT.new {K : Fg} {F : Hp} {p : Addr} {xs : List V} {o : Obj} (h : o.dict = none) : PlT K (upd F p (.frz o (.tup xs))) p xs := ⟨.inl (.inr ⟨o, upd_same⟩), .inl ⟨o, upd_same, h⟩⟩
theorem Rel.tup {α : List Addr} {F H : Hp} {S : Sto} {xs : List V} {ds : List D} (hr : Rel wd K mg α F H S) (hv : DVs wd K mg F α xs ds) {p : Addr} {o : Obj} (hp : H p = none) (ho : o.dict = none) : Rel wd K mg (α ++ []) (upd F p (.frz o (.tup xs))) (upd H p (.frz o (.tup xs))) S ∧ Stp α F H [] (upd F p (.frz o (.tup xs))) (upd H p (.frz o (.tup xs))) ∧ DV wd K mg (upd F p (.frz o (.tup xs))) (α ++ []) (.ref p) (.tup ds) := by
  obtain ⟨h1, h2⟩ := hr.newF (o := .frz o (.tup xs)) hp
  exact ⟨h1, h2, .tup (PlT.new ho) (hv.mono h2.sub)⟩
theorem Rel.lst {α : List Addr} {F H : Hp} {S : Sto} {xs : List V} {ds : List D} (hr : Rel wd K mg α F H S) (hv : DVs wd K mg F α xs ds) {p : Addr} (hp : H p = none) : Rel wd K mg (α ++ []) (upd F p (.lst xs)) (upd H p (.lst xs)) S ∧ Stp α F H [] (upd F p (.lst xs)) (upd H p (.lst xs)) ∧ DV wd K mg (upd F p (.lst xs)) (α ++ []) (.ref p) (.lst ds) := by
  obtain ⟨h1, h2⟩ := hr.newF (o := .lst xs) hp
  exact ⟨h1, h2, .lst (.inl (Rd.of upd_same)) (hv.mono h2.sub)⟩
theorem pd_tup {x1 : Nat} (h : PDs X W es rs) : PD X W (.Tuple es x1 pos) (rTup rs) := by
  obtain ⟨t, pt, st⟩ := h.ex
  refine ⟨_, pe_tupP pt, fun α F σ H δ S Q hr hs h => ?_⟩
  refine st α F σ H δ S _ hr hs (wp.bind h fun ds S1 _ xs H1 β F1 r1 q1 v1 h1 => ?_)
  split at h1
  · rename_i hl
    refine ⟨by rw [v1.length]; exact hl, fun q hq o ho => ?_⟩
    obtain ⟨a1, a2, a3⟩ := r1.tup v1 hq ho
    exact h1 _ _ _ _ a1 a2 a3
  · exact h1.elim
/-- a thing that is made, at p: it may stand for good, or be the store's -/
def wpF (wd : World) (K : Fg) (mg : Str → Option Value) (α : List Addr) (F H : Hp) (r : Res D) (Q : VK) (W : XK) : Prop := match r with
  | .ok d S' => ∀ p H' β F', Rel wd K mg (α ++ β) F' H' S' → Stp α F H β F' H' → H p = none → p ∉ α ++ β → F' p = none → Own wd K mg F' (α ++ β) H' p d → d.open = true → Q (.ref p) H'
  | .err c fs S' => ∀ cls dd H' β F', Rel wd K mg (α ++ β) F' H' S' → Stp α F H β F' H' → ErrAt wd K mg F' (α ++ β) c fs cls dd H' → W cls dd H'
  | .stuck => False
theorem wpF.step {α β : List Addr} {F H F1 H1 : Hp} {r : Res D} {Q : VK} {W : XK} (st : Stp α F H β F1 H1) (h : wpF wd K mg α F H r Q W) : wpF wd K mg (α ++ β) F1 H1 r Q W := by
  cases r with
  | ok d S' =>
    intro p H' γ F' hr hs hp ha hf ho hd
    rw [List.append_assoc] at hr ha ho
    exact h p H' (β ++ γ) F' hr (st.trans hs) (st.live p hp) ha hf ho hd
  | err c fs S' => intro cls dd H' γ F' hr hs hv; rw [List.append_assoc] at hr hv; exact h cls dd H' (β ++ γ) F' hr (st.trans hs) hv
  | stuck => exact h
structure PF (X : Cx) (W : WX) (e : Expr) (r : RE) : Prop where
  ex : ∃ t, PE X e t ∧ ∀ α F σ H δ S (Q : VK), Rel X.w X.K X.mg α F H S → Slots X.w X.K X.mg F α σ δ → wpF X.w X.K X.mg α F H (r δ S) Q (fun c d H' => W c d σ H') → t σ H Q
theorem wpF.bind {A B : Type} {α : List Addr} {F H : Hp} {rel : RelT B A} {r : Res A} {f : A → Sto → Res D} {Q : VK} {Q1 : B → Hp → Prop} {W : XK} (h : wpF wd K mg α F H (r.bind f) Q W)
    (k : ∀ a S1, r = .ok a S1 → ∀ x H1 β F1, Rel wd K mg (α ++ β) F1 H1 S1 → Stp α F H β F1 H1 → rel F1 (α ++ β) x a → wpF wd K mg (α ++ β) F1 H1 (f a S1) Q W → Q1 x H1) : wp wd K mg α F H rel r Q1 W := by
  cases r with
  | ok a S' => exact fun b H' β F' hr hs hv => k a S' rfl b H' β F' hr hs hv (wpF.step hs h)
  | err c fs S' => exact h
  | stuck => exact h
/-- a new list, laid now -/
theorem wpF.lay {α : List Addr} {F H : Hp} {S : Sto} {Q : VK} {W : XK} {p : Addr} {o : HO} {d : D} (h : wpF wd K mg α F H (.ok d S) Q W) (hr : Rel wd K mg α F H S) (hp : H p = none) (ho : Own wd K mg F α (upd H p o) p d) (hd : d.open = true) : Q (.ref p) (upd H p o) := by
  have e : α ++ [] = α := List.append_nil α
  have n := hr.notin hp
  have f := hr.notF hp
  exact h p _ [] F (by rw [e]; exact hr.other n f) (Stp.refl.other hp) hp (by rw [e]; exact n) f (by rw [e]; exact ho) hd
theorem pd_own (h : PF X W e ra) : PD X W e (rOwn ra) := by
  obtain ⟨t, pt, st⟩ := h.ex
  refine ⟨t, pt, fun α F σ H δ S Q hr hs h => st α F σ H δ S Q hr hs ?_⟩
  unfold rOwn at h
  cases q : ra δ S with
  | ok d S' =>
    rw [q] at h
    intro p H' β F' r1 s1 hp ha hf ho hd
    have h2 : wp X.w X.K X.mg α F H (relD X.w X.K X.mg) (.ok (.ptr S'.length) (S' ++ [d])) Q _ := h
    refine h2 (.ref p) H' (β ++ [p]) F' ?_ ⟨fun b hb => ?_, s1.sub, s1.frame, s1.live, s1.fnew⟩ ?_
    · rw [← List.append_assoc]
      exact r1.adopt ha hf ho hd
    · rcases List.mem_append.mp hb with z | z
      · exact s1.new b z
      · have : b = p := by simpa using z
        rw [this]; exact hp
    · rw [← List.append_assoc]
      refine .ptr ?_
      rw [List.getElem?_append_right (by rw [r1.len]; exact Nat.le_refl _), r1.len, Nat.sub_self] <;> rfl
  | err c fs S' => rw [q] at h; exact h
  | stuck => rw [q] at h; exact h
/-- a list that stands for good -/
def rKeep (a : RE) : RE := fun δ S => (a δ S).bind fun d S1 => match d with
  | .lst ds => .ok (.lst ds) S1
  | _ => .stuck
theorem pd_keep (h : PF X W e ra) : PD X W e (rKeep ra) := by
  obtain ⟨t, pt, st⟩ := h.ex
  refine ⟨t, pt, fun α F σ H δ S Q hr hs h => st α F σ H δ S Q hr hs ?_⟩
  unfold rKeep at h
  cases q : ra δ S with
  | ok d S' =>
    rw [q] at h
    intro p H' β F' r1 s1 hp ha hf ho hd
    cases d with
    | lst ds =>
      have h2 : wp X.w X.K X.mg α F H (relD X.w X.K X.mg) (.ok (.lst ds) S') Q _ := h
      obtain ⟨xs, o1, o2⟩ := ho
      obtain ⟨a1, a2⟩ := r1.freeze (o := .lst xs) ha hf o1
      exact h2 (.ref p) H' β (upd F' p (.lst xs)) a1 ⟨s1.new, s1.sub.trans a2, s1.frame, s1.live, fun a g1 g2 g3 => by
        have z : a ≠ p := fun z => g3 (z ▸ hp)
        rw [upd_ne z]; exact s1.fnew a g1 g2 g3⟩ (.lst (.inl (Rd.of upd_same)) (by have := o2.mono (β := []) a2; rw [List.append_nil] at this; exact this))
    | _ => exact (show False from h).elim
  | err c fs S' => rw [q] at h; exact h
  | stuck => rw [q] at h; exact h
theorem pf_lst (h : PDs X W es rs) : PF X W (.List es pos) (rLst rs) := by
  obtain ⟨t, pt, st⟩ := h.ex
  refine ⟨_, pe_lst pt, fun α F σ H δ S Q hr hs h => ?_⟩
  refine st α F σ H δ S _ hr hs (wpF.bind h fun ds S1 _ xs H1 β F1 r1 q1 v1 h1 => ?_)
  split at h1
  · rename_i hl
    refine ⟨by rw [v1.length]; exact hl, fun p hp => h1.lay r1 hp ⟨xs, upd_same, v1⟩ rfl⟩
  · exact h1.elim

/-! ### calls -/
def spD (wd : World) (K : Fg) (mg : Str → Option Value) (n : Nat) (m : Mir) : Sp := fun vs H Q E => vs.length = n ∧ ∃ α F S ds, Rel wd K mg α F H S ∧ DVs wd K mg F α vs ds ∧ wp wd K mg α F H (relD wd K mg) (m ds S) Q E
/-- a def that keeps its promise where no repr is under way -/
structure FnG (P : Program) (w : World) (K : Fg) (mg : Str → Option Value) (base : Heap) (k : Nat) (f : Addr) (fd : FuncData) (ps : List Str) (sp : Sp) : Prop where
  len : ∀ vs H Q E, sp vs H Q E → vs.length = ps.length
  run : ∀ (A : Around) (outer : List Env) (s : Shared) (H : Hp) (args : Args) (us : List Value) (vs : List V) (Q : VK) (E : XK), Room k A → A.guards = some [] → Env0 P w K mg base A outer s H → BindsTo s fd args (ps.zip us) → Vals vs us → sp vs H Q E → codeAny (model P w) A (.call (.ref f) args) (CR (L2.CX P w) outer P w H s Q E) s
theorem FnG.call {k : Nat} {f : Addr} {fd : FuncData} {ps : List Str} {sp : Sp} {pins : List (Addr × Obj)} {σ : L2.St} {H : Hp} {s : Shared} {Q : VK} {us : List Value} {vs : List V} (F : FnG X.prog X.w X.K X.mg X.base k f fd ps sp) (hr : Room k X.A) (hG : X.A.guards = some []) (hb : Binds X.K fd ps []) (tk : Takes X W)
    (I : Inv X pins σ H s) (r : Vals vs us) (h : sp vs H Q (WE W σ)) : wpAny (model X.prog X.w) X.A (call (.ref f) us) (EP X pins σ Q) X.xe s := by
  have hl := r.length.symm.trans (F.len vs H Q _ h)
  have b : BindsTo s fd ⟨us, []⟩ (ps.zip us) := by simpa only [List.append_nil] using hb s us I.kIn (by simpa only [List.append_nil] using hl)
  refine wpAny_call (codeAny_mono (F.run _ _ s H _ us vs Q _ hr hG I.env0 b r h) ?_)
  intro res s' q
  cases res with
  | error e => exact passAt tk σ pins H s e s' I q
  | ok fl => cases fl with
    | ret u => exact I.after q
    | next => exact q.elim
    | brk => exact q.elim
    | cont => exact q.elim
theorem pd_call {x : Str} {m : Mir} {n k : Nat} {f : Addr} {fd : FuncData} {ps : List Str} (F : FnG X.prog X.w X.K X.mg X.base k f fd ps (spD X.w X.K X.mg n m)) (hr : Room k X.A) (hG : X.A.guards = some []) (hm : X.mg x = some (.ref f)) (hk : PySem.W.keepIn X.K (.ref f) = true)
    (hb : Binds X.K fd ps []) (tk : Takes X W) (ha : PDs X W (e :: es) rs) (hl : (e :: es).length = n := by rfl) (hg : Gl X x := by rfl) (hdb : (x == ("__debug__" : Str)) = false := by decide)
    (he : starEach (e :: es) X.env = (false, eval e X.env) :: starEach es X.env := by rfl) (hpl : (backTo pos (starEach es X.env)).any (·.1) = false := by rfl) :
    PD X W (.Call (.Name x p) (e :: es) [] pos) (rCall m rs) := by
  obtain ⟨t, pt, st⟩ := ha.ex
  refine ⟨tCallS (spD X.w X.K X.mg n m) (WE W) t, ⟨fun pins s σ H Q I h => wpAny_Call_Name_kw (ld_glob I hg hm ?_ hdb)⟩, fun α F σ H δ S Q hr hs h => ?_⟩
  · exact PySem.W.callWith_K (h₀ := X.base) I.ok.mod.kin hk (thn (pt.run pos pins s σ H _ I h) fun us s1 ⟨vs, H1, I1, r, q⟩ => ⟨I1.kIn, F.call hr hG hb tk I1 r q⟩) he hpl
  · refine st α F σ H δ S _ hr hs (wp.bind h fun ds S1 e1 xs H1 β F1 r1 q1 v1 h1 => ?_)
    exact ⟨by rw [v1.length, ha.len _ _ _ _ e1]; exact hl, α ++ β, F1, S1, ds, r1, v1, h1⟩
end
end DL

set_option Elab.async false
set_option linter.all false
set_option maxRecDepth 100000
set_option maxHeartbeats 4000000
set_option autoImplicit false
/-! Data layer, fourth part: tests, targets, statements, loops, comprehensions, defs. -/
namespace DL
open PySem PySem.Spec PyProof.Rows L2

section
variable {X : Cx} {W : WX} {a b c e : Expr} {es rest : List Expr} {ra rb rc : RE} {ba bb : RB} {rs : RA} {pos p : Pos} {wd : World} {K : Fg} {mg : Str → Option Value} {α β : List Addr} {F H : Hp} {S : Sto}
/-! ### built-in things by their values -/
def OkC (X : Cx) (r : List V → Hp → VK → Prop) (g : Sto → List D → Option D) : Prop := ∀ α F H S (xs : List V) (ds : List D) (z : D) (Q : VK), Rel X.w X.K X.mg α F H S → DVs X.w X.K X.mg F α xs ds → g S ds = some z →
  (∀ v H' β F', Rel X.w X.K X.mg (α ++ β) F' H' S → Stp α F H β F' H' → DV X.w X.K X.mg F' (α ++ β) v z → Q v H') → r xs H Q
theorem SndA.app {t : TA} {g : Sto → List D → Option D} {k : List V → Hp → VK → Prop} (sa : SndA wd K mg W t rs)
    (hk : ∀ α F H S (xs : List V) (ds : List D) (z : D) (Q : VK), Rel wd K mg α F H S → DVs wd K mg F α xs ds → g S ds = some z → (∀ v H' β F', Rel wd K mg (α ++ β) F' H' S → Stp α F H β F' H' → DV wd K mg F' (α ++ β) v z → Q v H') → k xs H Q) :
    SndE wd K mg W (fun σ H Q => t σ H fun xs H1 => k xs H1 Q) (rAs g rs) := by
  intro α F σ H δ S Q hr hs h
  refine sa α F σ H δ S _ hr hs (wp.bind h fun d S1 _ x H1 β F1 r1 s1 v1 h1 => ?_)
  obtain ⟨z, e1, h3⟩ := wp.lift h1
  exact hk (α ++ β) F1 H1 S1 x d z Q r1 v1 e1 fun v H' ε F' r3 s3 v3 => h3 v H' ε F' r3 s3 v3
/-- a built-in by its name, a class by its name -/
structure BiG (X : Cx) (f : Value) (g : Sto → List D → Option D) : Prop where
  ex : ∃ r, CallR X f r ∧ OkC X r g
theorem pd_callB {x : Str} {id : String} {g : Sto → List D → Option D} (hc : BiG X (.builtin id) g) (hm : X.mg x = none) (ha : PDs X W (e :: es) rs) (hg : Gl X x := by rfl) (hv : bootBuiltins x = some (.builtin id) := by decide +kernel) (hn : x ≠ "__name__" := by decide) (hdb : (x == ("__debug__" : Str)) = false := by decide)
    (he : starEach (e :: es) X.env = (false, eval e X.env) :: starEach es X.env := by rfl) (hpl : (backTo pos (starEach es X.env)).any (·.1) = false := by rfl) : PD X W (.Call (.Name x p) (e :: es) [] pos) (rAs g rs) := by
  obtain ⟨r, h1, h2⟩ := hc.ex
  obtain ⟨t, pt, st⟩ := ha.ex
  exact ⟨_, pe_callB h1 hg hm hv pt hn hdb he hpl, st.app h2⟩
theorem pd_callT {x : Str} {T : String} {g : Sto → List D → Option D} (hc : BiG X (.type T) g) (hm : X.mg x = none) (ha : PDs X W (e :: es) rs) (hg : Gl X x := by rfl) (hv : bootBuiltins x = some (.type T) := by decide +kernel) (hn : x ≠ "__name__" := by decide) (hdb : (x == ("__debug__" : Str)) = false := by decide)
    (he : starEach (e :: es) X.env = (false, eval e X.env) :: starEach es X.env := by rfl) (hpl : (backTo pos (starEach es X.env)).any (·.1) = false := by rfl) : PD X W (.Call (.Name x p) (e :: es) [] pos) (rAs g rs) := by
  obtain ⟨r, h1, h2⟩ := hc.ex
  obtain ⟨t, pt, st⟩ := ha.ex
  exact ⟨_, pe_callTy h1 hg hm hv pt hn hdb he hpl, st.app h2⟩

/-! ### what is seen through the store -/
/-- an owned thing, by what it holds -/
theorem Rel.owned (hr : Rel wd K mg α F H S) {k : Nat} {a : Addr} (h : α[k]? = some a) : S[k]? = some (S.getD k .non) ∧ Own wd K mg F α H a (S.getD k .non) ∧ ((S.getD k .non).open = true → F a = none) := by
  have hk : k < S.length := by rw [← hr.len]; exact (List.getElem?_eq_some_iff.mp h).1
  have e2 : S[k]? = some (S.getD k .non) := by rw [List.getD_eq_getElem?_getD]; simp [hk]
  exact ⟨e2, hr.own k a _ h e2⟩
inductive Seen (wd : World) (K : Fg) (mg : Str → Option Value) (F : Hp) (α : List Addr) (H : Hp) : V → D → Prop
  | at {v : V} {d : D} : DV wd K mg F α v d → (∀ k, d ≠ .ptr k) → Seen wd K mg F α H v d
  | dead {v : V} {k : Nat} : Seen wd K mg F α H v (.ptr k)
  | lst {a : Addr} {xs : List V} {ds : List D} : H a = some (.lst xs) → DVs wd K mg F α xs ds → Seen wd K mg F α H (.ref a) (.lst ds)
  | dct {a : Addr} {ws : List (Key × V)} {kvs : List (D × D)} : Rd H a (.dK ws) → DKs (ws.map (·.1)) (kvs.map (·.1)) → DVs wd K mg F α (ws.map (·.2)) (kvs.map (·.2)) → Seen wd K mg F α H (.ref a) (.dct kvs)
  | dcn {a : Addr} {xs : List (NestedKey × Addr × V)} {kvs : List (D × D)} : Rd H a (dN wd a xs) → NVs wd K mg F α xs kvs → Seen wd K mg F α H (.ref a) (.dcn kvs)
theorem Rel.see (hr : Rel wd K mg α F H S) {v : V} {d : D} (h : DV wd K mg F α v d) : Seen wd K mg F α H v (deref S d) := by
  cases d with
  | ptr k =>
    cases h with
    | ptr h =>
      obtain ⟨_, o, _⟩ := hr.owned h
      unfold deref
      dsimp only
      generalize hd : S.getD k .non = d at o
      cases d with
      | lst ds => obtain ⟨xs, h1, h2⟩ := o; exact .lst h1 h2
      | dct kvs => obtain ⟨ws, h1, h2, h3⟩ := o; exact .dct (.inl h1) h2 h3
      | dcn kvs => obtain ⟨ws, h1, h2⟩ := o; exact .dcn (.inl h1) h2
      | lck u =>
        cases u with
        | dct kvs => obtain ⟨o, ws, h0, h1, h2, h3⟩ := o; exact .dct (.inr ⟨o, h1⟩) h2 h3
        | dcn kvs => obtain ⟨o, ws, h0, h1, h2⟩ := o; exact .dcn (.inr ⟨o, h1⟩) h2
        | _ => exact o.elim
      | non => exact .dead
      | _ => exact o.elim
  | _ => exact .at h (fun k e => by cases e)
theorem Rel.viewL (hr : Rel wd K mg α F H S) {v : V} {d : D} {ds : List D} (h : DV wd K mg F α v d) (e : deref S d = .lst ds) : ∃ a xs, v = .ref a ∧ SqL K H a xs ∧ DVs wd K mg F α xs ds := by
  have s := hr.see h
  rw [e] at s
  cases s with
  | «at» h _ => cases h with | lst q t => exact ⟨_, _, rfl, hr.sub.sqL q, t⟩
  | lst q t => exact ⟨_, _, rfl, .inl (Rd.of q), t⟩
theorem Rel.viewT (hr : Rel wd K mg α F H S) {v : V} {d : D} {ds : List D} (h : DV wd K mg F α v d) (e : deref S d = .tup ds) : ∃ a xs, v = .ref a ∧ SqT K H a xs ∧ DVs wd K mg F α xs ds := by
  have s := hr.see h
  rw [e] at s
  cases s with
  | «at» h _ => cases h with | tup q t => exact ⟨_, _, rfl, hr.sub.sqT q.1, t⟩
theorem Rel.viewX (hr : Rel wd K mg α F H S) {v : V} {d : D} {ds : List D} (h : DV wd K mg F α v d) (e : deref S d = .tux ds) : ∃ a xs, v = .ref a ∧ SqT K H a xs ∧ DVs wd K mg F α xs ds := by
  have s := hr.see h
  rw [e] at s
  cases s with
  | «at» h _ => cases h with | tux q t => exact ⟨_, _, rfl, hr.sub.sqT q, t⟩
theorem Rel.viewI (hr : Rel wd K mg α F H S) {v : V} {d : D} {i : Int} (h : DV wd K mg F α v d) (e : deref S d = .int i) : v = .int i := by
  have s := hr.see h
  rw [e] at s
  cases s with
  | «at» h _ => cases h; rfl
theorem Rel.viewS (hr : Rel wd K mg α F H S) {v : V} {d : D} {i : Str} (h : DV wd K mg F α v d) (e : deref S d = .str i) : v = .str i := by
  have s := hr.see h
  rw [e] at s
  cases s with
  | «at» h _ => cases h; rfl
theorem DVs.isEmpty {xs : List V} {ds : List D} (h : DVs wd K mg F α xs ds) : ds.isEmpty = xs.isEmpty := by cases h <;> rfl
theorem Rel.truV (hr : Rel wd K mg α F H S) {v : V} {d : D} {k : Bool} (h : DV wd K mg F α v d) (e : truth S d = some k) : TruV K v H k := by
  have s := hr.see h
  unfold truth at e
  generalize deref S d = dd at e s
  cases s with
  | «at» h hp =>
    cases h with
    | non => cases e; rfl
    | bl b => cases e; rfl
    | int i => cases e; rfl
    | str x =>
      dsimp only at e
      split at e
      · rename_i hl; cases e; exact ⟨hl, rfl⟩
      · cases e
    | tup q t => cases e; exact .inr (.inl ⟨_, hr.sub.sqT q.1, by rw [t.isEmpty]⟩)
    | tux q t => cases e
    | lst q t => cases e; exact .inl ⟨_, hr.sub.sqL q, by rw [t.isEmpty]⟩
    | ptr _ => exact absurd rfl (hp _)
    | fn _ => cases e
    | ty _ => cases e
  | dead => cases e
  | lst q t => cases e; exact .inl ⟨_, SqL.of q, by rw [t.isEmpty]⟩
  | dct h k t => cases e
  | dcn h t => cases e

/-! ### tests -/
theorem pb_tru (ha : PD X W a ra) (he : ∀ whole, isTrue a X.env whole = (do let v ← whole; standAt a.pos; holding [v] (truthy v)) := by intro _; rfl) : PB X W a (bTru ra) := by
  obtain ⟨ta, pa, sa⟩ := ha.ex
  refine ⟨_, pt_truth pa he, fun α F σ H δ S Q hr hs h => ?_⟩
  refine sa α F σ H δ S _ hr hs (wp.bind h fun d S1 _ x H1 β F1 r1 s1 v1 h1 => ?_)
  obtain ⟨k, e1, h2⟩ := wp.lift h1
  exact ⟨k, r1.truV v1 e1, h2.now r1 rfl⟩
theorem SndB.and {t u : TT} (s1 : SndB wd K mg W t ba) (s2 : SndB wd K mg W u bb) : SndB wd K mg W (tAnd t u) (bAnd ba bb) := by
  intro α F σ H δ S Q hr hs h
  refine s1 α F σ H δ S _ hr hs (wp.bind h fun d S1 _ x H1 β F1 r1 q1 v1 h1 => ?_)
  have e : x = d := v1
  subst e
  cases x with
  | true => exact s2 (α ++ β) F1 σ H1 δ S1 Q r1 (hs.mono q1.sub) h1
  | false => exact h1.now r1 rfl
theorem SndB.or {t u : TT} (s1 : SndB wd K mg W t ba) (s2 : SndB wd K mg W u bb) : SndB wd K mg W (tOr t u) (bOr ba bb) := by
  intro α F σ H δ S Q hr hs h
  refine s1 α F σ H δ S _ hr hs (wp.bind h fun d S1 _ x H1 β F1 r1 q1 v1 h1 => ?_)
  have e : x = d := v1
  subst e
  cases x with
  | false => exact s2 (α ++ β) F1 σ H1 δ S1 Q r1 (hs.mono q1.sub) h1
  | true => exact h1.now r1 rfl
theorem pw_and1D (ha : PB X W a ba) : PBw X W (.BoolOp .And [a] pos) ba := let ⟨t, h, s⟩ := ha.ex; ⟨t, pw_and1 h, s⟩
theorem pw_or1D (ha : PB X W a ba) : PBw X W (.BoolOp .Or [a] pos) ba := let ⟨t, h, s⟩ := ha.ex; ⟨t, pw_or1 h, s⟩
theorem pw_andD (ha : PB X W a ba) (hb : PBw X W (.BoolOp .And (b :: rest) pos) bb) : PBw X W (.BoolOp .And (a :: b :: rest) pos) (bAnd ba bb) := by
  obtain ⟨t, h1, s1⟩ := ha.ex
  obtain ⟨u, h2, s2⟩ := hb.ex
  exact ⟨_, pw_and h1 h2, s1.and s2⟩
theorem pw_orD (ha : PB X W a ba) (hb : PBw X W (.BoolOp .Or (b :: rest) pos) bb) : PBw X W (.BoolOp .Or (a :: b :: rest) pos) (bOr ba bb) := by
  obtain ⟨t, h1, s1⟩ := ha.ex
  obtain ⟨u, h2, s2⟩ := hb.ex
  exact ⟨_, pw_or h1 h2, s1.or s2⟩
theorem pb_w (h : PBw X W a ba) : PB X W a ba := let ⟨t, p, s⟩ := h.ex; ⟨t, p.pt, s⟩
theorem pb_not (ha : PB X W a ba) : PB X W (.UnaryOp .Not a pos) (bNot ba) := by
  obtain ⟨t, h, s⟩ := ha.ex
  refine ⟨_, pt_not h, fun α F σ H δ S Q hr hs h => ?_⟩
  refine s α F σ H δ S _ hr hs (wp.bind h fun d S1 _ x H1 β F1 r1 q1 v1 h1 => ?_)
  have e : x = d := v1
  subst e
  exact h1.now r1 rfl
/-- a < b <= c -/
def rChain (g g' : Sto → D → D → Option D) (ra rb rc : RE) : RE := fun δ S => (ra δ S).bind fun x S1 => (rb δ S1).bind fun y S2 => (Res.lift (g S2 x y) S2).bind fun z S3 => match z with
  | .bl true => (rc δ S3).bind fun u S4 => .lift (g' S4 y u) S4
  | .bl false => .ok (.bl false) S3
  | _ => .stuck
theorem pd_chain2 {op op' : CmpOp} {g g' : Sto → D → D → Option D} (ho : OpG X (compareOp op) g) (ho' : OpG X (compareOp op') g') (ha : PD X W a ra) (hb : PD X W b rb) (hc : PD X W c rc) (hm : lastMarks [op, op'] [b, c] = false := by with_unfolding_all rfl) :
    PD X W (.Compare a [op, op'] [b, c] pos) (rChain g g' ra rb rc) ∧ PB X W (.Compare a [op, op'] [b, c] pos) (bVal (rChain g g' ra rb rc)) := by
  obtain ⟨r, h1, h2⟩ := ho.ex
  obtain ⟨r', h1', h2'⟩ := ho'.ex
  obtain ⟨ta, pa, sa⟩ := ha.ex
  obtain ⟨tb, pb, sb⟩ := hb.ex
  obtain ⟨tc, pc, sc⟩ := hc.ex
  suffices q : SndE X.w X.K X.mg W (tChain r r' ta tb tc) (rChain g g' ra rb rc) from ⟨⟨_, pe_chain h1 h1' pa pb pc hm, q⟩, ⟨_, pt_chain h1 h1' pa pb pc hm, q.val⟩⟩
  intro α F σ H δ S Q hr hs h
  refine sa α F σ H δ S _ hr hs (wp.bind h fun d S1 _ x H1 β F1 r1 s1 v1 q1 => ?_)
  refine sb (α ++ β) F1 σ H1 δ S1 _ r1 (hs.mono s1.sub) (wp.bind q1 fun e S2 _ y H2 γ F2 r2 s2 v2 q2 => ?_)
  cases eg : g S2 d e with
  | none => rw [eg] at q2; exact q2.elim
  | some z =>
    rw [eg] at q2
    refine h2 (α ++ β ++ γ) F2 H2 S2 x y d e z _ r2 (v1.mono s2.sub) v2 eg fun v H3 ε F3 r3 s3 v3 => ?_
    have q3 := wp.step s3 q2
    cases z with
    | bl k =>
      cases v3
      refine ⟨k, rfl, ?_⟩
      cases k with
      | false => exact q3.now r3 (.bl false)
      | true =>
        refine sc (α ++ β ++ γ ++ ε) F3 σ H3 δ S2 _ r3 (((hs.mono s1.sub).mono s2.sub).mono s3.sub) (wp.bind q3 fun u S4 _ w H4 ζ F4 r4 s4 v4 q4 => ?_)
        obtain ⟨z', e', q5⟩ := wp.lift q4
        exact h2' _ F4 H4 S4 y w e u z' Q r4 ((v2.mono s3.sub).mono s4.sub) v4 e' fun v H' ε F' r3 s3 v3 => q5 v H' ε F' r3 s3 v3
    | _ => exact q3.elim
/-! ### and, or, not, if as values -/
theorem pd_if (hc : PB X W c ba) (ha : PD X W a ra) (hb : PD X W b rb) : PD X W (.IfExp c a b pos) (rIf ba ra rb) := by
  obtain ⟨tc, pc, sc⟩ := hc.ex
  obtain ⟨ta, pa, sa⟩ := ha.ex
  obtain ⟨tb, pb, sb⟩ := hb.ex
  refine ⟨_, pe_ifExp pc pa pb, fun α F σ H δ S Q hr hs h => ?_⟩
  refine sc α F σ H δ S _ hr hs (wp.bind h fun d S1 _ x H1 β F1 r1 q1 v1 h1 => ?_)
  have e : x = d := v1
  subst e
  cases x with
  | true => exact sa (α ++ β) F1 σ H1 δ S1 Q r1 (hs.mono q1.sub) h1
  | false => exact sb (α ++ β) F1 σ H1 δ S1 Q r1 (hs.mono q1.sub) h1
theorem pd_one {op : BoolOp} (ha : PD X W a ra) : PD X W (.BoolOp op [a] pos) ra := let ⟨t, h, s⟩ := ha.ex; ⟨t, pe_one h, s⟩
theorem pd_or (ha : PD X W a ra) (hb : PD X W (.BoolOp .Or (b :: rest) pos) rb) : PD X W (.BoolOp .Or (a :: b :: rest) pos) (rOr ra rb) := by
  obtain ⟨ta, pa, sa⟩ := ha.ex
  obtain ⟨tb, pb, sb⟩ := hb.ex
  refine ⟨_, pe_orT pa pb, fun α F σ H δ S Q hr hs h => ?_⟩
  refine sa α F σ H δ S _ hr hs (wp.bind h fun d S1 _ x H1 β F1 r1 q1 v1 h1 => ?_)
  cases e : truth S1 d with
  | none => rw [e] at h1; exact h1.elim
  | some k =>
    rw [e] at h1
    refine ⟨k, r1.truV v1 e, ?_⟩
    cases k with
    | true => exact h1.now r1 v1
    | false => exact sb (α ++ β) F1 σ H1 δ S1 Q r1 (hs.mono q1.sub) h1
theorem pd_and (ha : PD X W a ra) (hb : PD X W (.BoolOp .And (b :: rest) pos) rb) : PD X W (.BoolOp .And (a :: b :: rest) pos) (rAnd ra rb) := by
  obtain ⟨ta, pa, sa⟩ := ha.ex
  obtain ⟨tb, pb, sb⟩ := hb.ex
  refine ⟨_, pe_andT pa pb, fun α F σ H δ S Q hr hs h => ?_⟩
  refine sa α F σ H δ S _ hr hs (wp.bind h fun d S1 _ x H1 β F1 r1 q1 v1 h1 => ?_)
  cases e : truth S1 d with
  | none => rw [e] at h1; exact h1.elim
  | some k =>
    rw [e] at h1
    refine ⟨k, r1.truV v1 e, ?_⟩
    cases k with
    | false => exact h1.now r1 v1
    | true => exact sb (α ++ β) F1 σ H1 δ S1 Q r1 (hs.mono q1.sub) h1
theorem pd_not (ha : PD X W a ra) : PD X W (.UnaryOp .Not a pos) (rNot ra) := by
  obtain ⟨ta, pa, sa⟩ := ha.ex
  refine ⟨_, pe_notT pa, fun α F σ H δ S Q hr hs h => ?_⟩
  refine sa α F σ H δ S _ hr hs (wp.bind h fun d S1 _ x H1 β F1 r1 q1 v1 h1 => ?_)
  cases e : truth S1 d with
  | none => rw [e] at h1; exact h1.elim
  | some k =>
    rw [e] at h1
    exact ⟨k, r1.truV v1 e, h1.now r1 (.bl _)⟩
end
end DL

set_option Elab.async false
set_option linter.all false
set_option maxRecDepth 100000
set_option maxHeartbeats 4000000
set_option autoImplicit false
/-! Data layer, fifth part: targets, statements, loops, comprehensions, defs. -/
namespace DL
open PySem PySem.Spec PyProof.Rows L2

def relS (wd : World) (K : Fg) (mg : Str → Option Value) : RelT L2.St Sl := fun F α σ δ => Slots wd K mg F α σ δ
def SndG (wd : World) (K : Fg) (mg : Str → Option Value) (W : WX) (t : TG) (g : RG) : Prop := ∀ α F σ H δ S v d (Q : L2.St → Hp → Prop), Rel wd K mg α F H S → Slots wd K mg F α σ δ → DV wd K mg F α v d → wp wd K mg α F H (relS wd K mg) (g d δ S) Q (fun c d H' => W c d σ H') → t v σ H Q
def SndGs (wd : World) (K : Fg) (mg : Str → Option Value) (W : WX) (t : TGs) (g : List D → Sl → Sto → Res Sl) : Prop := ∀ α F σ H δ S v d (Q : L2.St → Hp → Prop), Rel wd K mg α F H S → Slots wd K mg F α σ δ → DVs wd K mg F α v d → wp wd K mg α F H (relS wd K mg) (g d δ S) Q (fun c d H' => W c d σ H') → t v σ H Q
structure PGd (X : Cx) (W : WX) (tg : Expr) (g : RG) : Prop where
  ex : ∃ t, PG X tg t ∧ SndG X.w X.K X.mg W t g
/-- .. that raises nothing -/
structure PGn (X : Cx) (W : WX) (tg : Expr) (g : RG) : Prop where
  pg : PGd X W tg g
  ne : ∀ d δ S c fs S', g d δ S ≠ .err c fs S'
structure PGds (X : Cx) (W : WX) (tg : List Expr) (g : List D → Sl → Sto → Res Sl) : Prop where
  ex : ∃ t, PGs X tg t ∧ SndGs X.w X.K X.mg W t g
  ne : ∀ d δ S c fs S', g d δ S ≠ .err c fs S'
  len : ∀ ds δ S δ' S', g ds δ S = .ok δ' S' → ds.length = tg.length
def wpS (wd : World) (K : Fg) (mg : Str → Option Value) (α : List Addr) (F H : Hp) (o : Out) (E : Ends) (W : WX) : Prop := match o with
  | .nx δ S => ∀ σ' H' β F', Rel wd K mg (α ++ β) F' H' S → Stp α F H β F' H' → Slots wd K mg F' (α ++ β) σ' δ → E.nx σ' H'
  | .rt d S => ∀ v H' β F', Rel wd K mg (α ++ β) F' H' S → Stp α F H β F' H' → DV wd K mg F' (α ++ β) v d → E.rt v H'
  | .bk δ S => ∀ σ' H' β F', Rel wd K mg (α ++ β) F' H' S → Stp α F H β F' H' → Slots wd K mg F' (α ++ β) σ' δ → E.bk σ' H'
  | .ct δ S => ∀ σ' H' β F', Rel wd K mg (α ++ β) F' H' S → Stp α F H β F' H' → Slots wd K mg F' (α ++ β) σ' δ → E.ct σ' H'
  | .err c fs δ S => ∀ cls dd σ' H' β F', Rel wd K mg (α ++ β) F' H' S → Stp α F H β F' H' → Slots wd K mg F' (α ++ β) σ' δ → ErrAt wd K mg F' (α ++ β) c fs cls dd H' → W cls dd σ' H'
  | .stuck => False
def SndS (wd : World) (K : Fg) (mg : Str → Option Value) (W : WX) (t : TS) (r : RS) : Prop := ∀ α F σ H δ S (E : Ends), Rel wd K mg α F H S → Slots wd K mg F α σ δ → wpS wd K mg α F H (r δ S) E W → t E σ H
structure PSd (X : Cx) (W : WX) (st : Stmt) (r : RS) : Prop where
  ex : ∃ t, PS X st t ∧ SndS X.w X.K X.mg W t r
structure PSds (X : Cx) (W : WX) (st : List Stmt) (r : RS) : Prop where
  ex : ∃ t, PSs X st t ∧ SndS X.w X.K X.mg W t r

section
variable {X : Cx} {W : WX} {a b c e : Expr} {es rest : List Expr} {ra rb rc : RE} {ba bb : RB} {rs : RA} {pos p : Pos} {wd : World} {K : Fg} {mg : Str → Option Value} {α β : List Addr} {F F1 H H1 : Hp} {S : Sto}
theorem wpS.step {o : Out} {E : Ends} (st : Stp α F H β F1 H1) (h : wpS wd K mg α F H o E W) : wpS wd K mg (α ++ β) F1 H1 o E W := by
  cases o with
  | nx δ S => intro σ' H' γ F' hr hs hv; rw [List.append_assoc] at hr hv; exact h σ' H' (β ++ γ) F' hr (st.trans hs) hv
  | rt d S => intro σ' H' γ F' hr hs hv; rw [List.append_assoc] at hr hv; exact h σ' H' (β ++ γ) F' hr (st.trans hs) hv
  | bk δ S => intro σ' H' γ F' hr hs hv; rw [List.append_assoc] at hr hv; exact h σ' H' (β ++ γ) F' hr (st.trans hs) hv
  | ct δ S => intro σ' H' γ F' hr hs hv; rw [List.append_assoc] at hr hv; exact h σ' H' (β ++ γ) F' hr (st.trans hs) hv
  | err c fs δ S => intro cls dd σ' H' γ F' hr hs hv q; rw [List.append_assoc] at hr hv q; exact h cls dd σ' H' (β ++ γ) F' hr (st.trans hs) hv q
  | stuck => exact h
theorem wpS.out {A B : Type} {rel : RelT B A} {r : Res A} {δ : Sl} {f : A → Sto → Out} {E : Ends} {Q : B → Hp → Prop} {σ : L2.St} (h : wpS wd K mg α F H (r.out δ f) E W) (hs : Slots wd K mg F α σ δ)
    (k : ∀ a S1, r = .ok a S1 → ∀ x H1 β F1, Rel wd K mg (α ++ β) F1 H1 S1 → Stp α F H β F1 H1 → rel F1 (α ++ β) x a → wpS wd K mg (α ++ β) F1 H1 (f a S1) E W → Q x H1) : wp wd K mg α F H rel r Q (fun c d H' => W c d σ H') := by
  cases r with
  | ok a S' => exact fun b H' β F' hr st hv => k a S' rfl b H' β F' hr st hv (wpS.step st h)
  | err c fs S' => exact fun cls dd H' β F' hr st q => h cls dd σ H' β F' hr st (hs.mono st.sub) q
  | stuck => exact h
theorem wpS.nx {δ : Sl} {E : Ends} {σ : L2.St} (h : wpS wd K mg α F H (.nx δ S) E W) (hr : Rel wd K mg α F H S) (hs : Slots wd K mg F α σ δ) : E.nx σ H := by
  have e : α ++ [] = α := List.append_nil α
  exact h σ H [] F (by rw [e]; exact hr) Stp.refl (by rw [e]; exact hs)
theorem wpS.rt {d : D} {E : Ends} {v : V} (h : wpS wd K mg α F H (.rt d S) E W) (hr : Rel wd K mg α F H S) (hv : DV wd K mg F α v d) : E.rt v H := by
  have e : α ++ [] = α := List.append_nil α
  exact h v H [] F (by rw [e]; exact hr) Stp.refl (by rw [e]; exact hv)
theorem wpS.bk {δ : Sl} {E : Ends} {σ : L2.St} (h : wpS wd K mg α F H (.bk δ S) E W) (hr : Rel wd K mg α F H S) (hs : Slots wd K mg F α σ δ) : E.bk σ H := by
  have e : α ++ [] = α := List.append_nil α
  exact h σ H [] F (by rw [e]; exact hr) Stp.refl (by rw [e]; exact hs)
theorem wpS.ct {δ : Sl} {E : Ends} {σ : L2.St} (h : wpS wd K mg α F H (.ct δ S) E W) (hr : Rel wd K mg α F H S) (hs : Slots wd K mg F α σ δ) : E.ct σ H := by
  have e : α ++ [] = α := List.append_nil α
  exact h σ H [] F (by rw [e]; exact hr) Stp.refl (by rw [e]; exact hs)

/-! ### targets -/
theorem pgd_name (i : Nat) {x : Str} (hN : X.N.Nodup) (hi : X.N[i]? = some x := by rfl) (hx : Loc X.env.scope x := by first | exact Or.inl rfl | exact Or.inr rfl) (hf : X.fn x = true ∨ X.env.scope.names.lookup x = some .local := by first | exact .inl rfl | exact .inr rfl | assumption) : PGn X W (.Name x pos) (gName i) := by
  refine ⟨⟨_, pg_name hN hi hx hf, fun α F σ H δ S v d Q hr hs hv h => ?_⟩, fun d δ S c fs S' h => by unfold gName at h; split at h <;> cases h⟩
  unfold gName at h
  split at h
  · exact h.now hr (hs.set hv)
  · exact h.elim
theorem pgds_nil : PGds X W [] gNil := by
  refine ⟨⟨_, pgs_nil, fun α F σ H δ S v d Q hr hs hv h => ?_⟩, fun d δ S c fs S' h => ?_, fun ds δ S δ' S' h => ?_⟩
  · cases hv with
    | nil => exact ⟨rfl, h.now hr hs⟩
    | cons _ _ => exact h.elim
  · cases d <;> cases h
  · cases ds with
    | nil => rfl
    | cons _ _ => cases h
theorem pgds_cons {g : RG} {u : List D → Sl → Sto → Res Sl} (h1 : PGn X W e g) (h2 : PGds X W es u) (hsy : (assignEach (e :: es) X.env).map (·.2) = assign e X.env :: (assignEach es X.env).map (·.2) := by rfl) : PGds X W (e :: es) (gCons g u) := by
  obtain ⟨t, p1, s1⟩ := h1.pg.ex
  obtain ⟨t', p2, s2⟩ := h2.ex
  refine ⟨⟨_, pgs_cons p1 p2 hsy, fun α F σ H δ S v d Q hr hs hv h => ?_⟩, fun d δ S c fs S' h => ?_, fun ds δ S δ' S' h => ?_⟩
  · cases hv with
    | nil => exact h.elim
    | cons hv ht =>
      rename_i v d vs ds
      refine ⟨v, vs, rfl, s1 α F σ H δ S v d _ hr hs hv (wp.bind h fun δ1 S1 _ σ1 H1 β F1 r1 q1 hs1 h1 => ?_)⟩
      refine s2 (α ++ β) F1 σ1 H1 δ1 S1 vs ds Q r1 hs1 (ht.mono q1.sub) ?_
      cases q : u ds δ1 S1 with
      | ok a S' => rw [q] at h1; exact h1
      | err c fs S' => exact absurd q (h2.ne _ _ _ _ _ _)
      | stuck => rw [q] at h1; exact h1
  · cases d with
    | nil => cases h
    | cons d r =>
      have h' : (g d δ S).bind (fun δ1 S1 => u r δ1 S1) = .err c fs S' := h
      cases q : g d δ S with
      | ok a S1 => rw [q] at h'; exact h2.ne _ _ _ _ _ _ h'
      | err c fs S1 => exact h1.ne _ _ _ _ _ _ q
      | stuck => rw [q] at h'; cases h'
  · cases ds with
    | nil => cases h
    | cons d r =>
      have h' : (g d δ S).bind (fun δ1 S1 => u r δ1 S1) = .ok δ' S' := h
      cases q : g d δ S with
      | ok a S1 => rw [q] at h'; rw [List.length_cons, List.length_cons, h2.len _ _ _ _ _ h']
      | err c fs S1 => rw [q] at h'; cases h'
      | stuck => rw [q] at h'; cases h'
theorem pgn_tup {k : Nat} {u : List D → Sl → Sto → Res Sl} (hc : X.calm = true) (h : PGds X W es u) (hn : (assignEach es X.env).length = es.length := by rfl) (hst : (assignEach es X.env).findIdx? (·.1) = none := by rfl) : PGn X W (.Tuple es k pos) (gTup u) := by
  obtain ⟨t, p1, s1⟩ := h.ex
  refine ⟨⟨_, pg_tup hc p1 hn hst, fun α F σ H δ S v d Q hr hs hv h0 => ?_⟩, fun d δ S c fs S' h0 => ?_⟩
  · unfold gTup at h0
    cases q : deref S d with
    | tup ds =>
      rw [q] at h0
      dsimp only at h0
      obtain ⟨a, xs, e1, e2, e3⟩ := hr.viewT hv q
      have len : ds.length = es.length := by
        cases q2 : u ds δ S with
        | ok δ' S' => exact h.len _ _ _ _ _ q2
        | err c fs S' => exact absurd q2 (h.ne _ _ _ _ _ _)
        | stuck => rw [q2] at h0; exact h0.elim
      exact ⟨a, xs, e1, e2, by rw [e3.length]; exact len, s1 α F σ H δ S xs ds Q hr hs e3 h0⟩
    | tux ds =>
      rw [q] at h0
      dsimp only at h0
      obtain ⟨a, xs, e1, e2, e3⟩ := hr.viewX hv q
      have len : ds.length = es.length := by
        cases q2 : u ds δ S with
        | ok δ' S' => exact h.len _ _ _ _ _ q2
        | err c fs S' => exact absurd q2 (h.ne _ _ _ _ _ _)
        | stuck => rw [q2] at h0; exact h0.elim
      exact ⟨a, xs, e1, e2, by rw [e3.length]; exact len, s1 α F σ H δ S xs ds Q hr hs e3 h0⟩
    | _ => rw [q] at h0; exact h0.elim
  · unfold gTup at h0
    cases q : deref S d with
    | tup ds => rw [q] at h0; exact h.ne _ _ _ _ _ _ h0
    | tux ds => rw [q] at h0; exact h.ne _ _ _ _ _ _ h0
    | _ => rw [q] at h0; cases h0

/-! ### statements -/
theorem psds_nil : PSds X W [] sNext := ⟨_, pss_nil, fun α F σ H δ S E hr hs h => h.nx hr hs⟩
theorem psds_cons {st : Stmt} {sts : List Stmt} {r u : RS} (h1 : PSd X W st r) (h2 : PSds X W sts u) : PSds X W (st :: sts) (sSeq r u) := by
  obtain ⟨t, p1, s1⟩ := h1.ex
  obtain ⟨t', p2, s2⟩ := h2.ex
  refine ⟨_, pss_cons p1 p2, fun α F σ H δ S E hr hs h => ?_⟩
  refine s1 α F σ H δ S _ hr hs ?_
  unfold sSeq at h
  cases q : r δ S with
  | nx δ1 S1 =>
    rw [q] at h
    exact fun σ' H' β F' r1 q1 hs1 => s2 (α ++ β) F' σ' H' δ1 S1 E r1 hs1 (wpS.step q1 h)
  | rt d S1 => rw [q] at h; exact h
  | bk δ S1 => rw [q] at h; exact h
  | ct δ S1 => rw [q] at h; exact h
  | err c fs δ S1 => rw [q] at h; exact h
  | stuck => rw [q] at h; exact h
theorem psds_one {st : Stmt} {r : RS} (h1 : PSd X W st r) : PSds X W [st] r := let ⟨t, p, s⟩ := h1.ex; ⟨t, pss_one p, s⟩
theorem psd_pass : PSd X W (.Pass pos) sNext := ⟨_, ps_pass, fun α F σ H δ S E hr hs h => h.nx hr hs⟩
theorem psd_break : PSd X W (.Break pos) sBreak := ⟨_, ps_break, fun α F σ H δ S E hr hs h => h.bk hr hs⟩
theorem psd_cont : PSd X W (.Continue pos) sCont := ⟨_, ps_continue, fun α F σ H δ S E hr hs h => h.ct hr hs⟩
theorem psd_doc {x : Str} {j : Nat} {pos' : Pos} : PSd X W (.Expr (.Constant (.str x) j pos) pos') sNext := ⟨_, ps_doc, fun α F σ H δ S E hr hs h => h.nx hr hs⟩
theorem psd_never {st : Stmt} : PSd X W st sNever := ⟨_, ps_never, fun α F σ H δ S E hr hs h => h⟩
theorem psd_expr (ha : PD X W e ra) (hsw : swapsWith e none pos.line X.env = pure false := by rfl) : PSd X W (.Expr e pos) (sExpr ra) := by
  obtain ⟨t, p1, s1⟩ := ha.ex
  refine ⟨_, ps_expr p1 hsw, fun α F σ H δ S E hr hs h => ?_⟩
  exact s1 α F σ H δ S _ hr hs (wpS.out h hs fun d S1 _ x H1 β F1 r1 q1 v1 h1 => h1.nx r1 (hs.mono q1.sub))
theorem psd_ret (ha : PD X W e ra) : PSd X W (.Return (some e) pos) (sRet ra) := by
  obtain ⟨t, p1, s1⟩ := ha.ex
  refine ⟨_, ps_ret p1, fun α F σ H δ S E hr hs h => ?_⟩
  exact s1 α F σ H δ S _ hr hs (wpS.out h hs fun d S1 _ x H1 β F1 r1 q1 v1 h1 => h1.rt r1 v1)
theorem psd_retN : PSd X W (.Return none pos) (sRet (rC .non)) := by
  refine ⟨_, ps_retN, fun α F σ H δ S E hr hs h => ?_⟩
  have h' : wpS X.w X.K X.mg α F H (.rt .non S) E W := h
  exact h'.rt hr .non
theorem psd_if {p q : List Stmt} {t u : RS} (hc : PB X W c ba) (ha : PSds X W p t) (hb : PSds X W q u) : PSd X W (.If c p q pos) (sIf ba t u) := by
  obtain ⟨tc, p0, s0⟩ := hc.ex
  obtain ⟨t', p1, s1⟩ := ha.ex
  obtain ⟨u', p2, s2⟩ := hb.ex
  refine ⟨_, ps_if p0 p1 p2, fun α F σ H δ S E hr hs h => ?_⟩
  refine s0 α F σ H δ S _ hr hs (wpS.out h hs fun d S1 _ x H1 β F1 r1 q1 v1 h1 => ?_)
  have e : x = d := v1
  subst e
  cases x with
  | true => exact s1 (α ++ β) F1 σ H1 δ S1 E r1 (hs.mono q1.sub) h1
  | false => exact s2 (α ++ β) F1 σ H1 δ S1 E r1 (hs.mono q1.sub) h1
theorem psd_asg {tg : Expr} {g : RG} (he : PD X W e ra) (hg : PGd X W tg g) (hsw : swapsWithSole [tg] e pos.line X.env = pure false := by rfl) (hw : swappedStores [tg] e X.env = pure none := by rfl) (h1 : (assignEach [tg] X.env).map (·.2) = [assign tg X.env] := by rfl) : PSd X W (.Assign [tg] e pos) (sAsg ra g) := by
  obtain ⟨t, p1, s1⟩ := he.ex
  obtain ⟨tg', p2, s2⟩ := hg.ex
  refine ⟨_, ps_asg p1 p2 hsw hw h1, fun α F σ H δ S E hr hs h => ?_⟩
  refine s1 α F σ H δ S _ hr hs (wpS.out h hs fun d S1 _ x H1 β F1 r1 q1 v1 h1 => ?_)
  refine s2 (α ++ β) F1 σ H1 δ S1 x d _ r1 (hs.mono q1.sub) v1 (wpS.out h1 (hs.mono q1.sub) fun δ1 S2 _ σ1 H2 γ F2 r2 q2 v2 h2 => ?_)
  exact h2.nx r2 v2

/-! ### loops -/
/-- J walks ds, whatever else is laid -/
structure ItOk (wd : World) (K : Fg) (mg : Str → Option Value) (F : Hp) (α : List Addr) (J : It) (ds : List D) : Prop where
  go : ∀ (F' H' : Hp) (i : Nat), Sub F F' → Sub F' H' → i < ds.length → J.go i H'
  stop : ∀ (F' H' : Hp), Sub F F' → Sub F' H' → J.stop ds.length H'
  yld : ∀ (F' H' H2 : Hp) (i : Nat) (x : V) (d : D), Sub F F' → Sub F' H' → ds[i]? = some d → J.yld i H' x H2 → (H2 = H' ∧ DV wd K mg F' α x d) ∨ ∃ T o, H' T = none ∧ H2 = upd H' T o ∧ DV wd K mg (upd F' T o) α x d
theorem ItOk.mono {J : It} {ds : List D} (h : ItOk wd K mg F α J ds) (s : Sub F F1) : ItOk wd K mg F1 (α ++ β) J ds where
  go := fun F' H' i a b => h.go F' H' i (s.trans a) b
  stop := fun F' H' a b => h.stop F' H' (s.trans a) b
  yld := fun F' H' H2 i x d a b c q => (h.yld F' H' H2 i x d (s.trans a) b c q).imp (fun ⟨z, y⟩ => ⟨z, y.mono (Sub.refl _)⟩) fun ⟨T, o, z1, z2, y⟩ => ⟨T, o, z1, z2, y.mono (Sub.refl _)⟩
def relI (wd : World) (K : Fg) (mg : Str → Option Value) : RelT It (List D) := fun F α J ds => ItOk wd K mg F α J ds
def SndI (wd : World) (K : Fg) (mg : Str → Option Value) (W : WX) (t : TI) (r : RA) : Prop := ∀ α F σ H δ S (Q : It → Hp → Prop), Rel wd K mg α F H S → Slots wd K mg F α σ δ → wp wd K mg α F H (relI wd K mg) (r δ S) Q (fun c d H' => W c d σ H') → t σ H Q
structure PId (X : Cx) (W : WX) (tg iter : Expr) (r : RA) : Prop where
  ex : ∃ t, PI X tg iter t ∧ SndI X.w X.K X.mg W t r
/-- the item that came -/
theorem ItOk.came {J : It} {ds : List D} {H2 : Hp} {i : Nat} {x : V} {d : D} (h : ItOk wd K mg F α J ds) (hr : Rel wd K mg α F H S) (hd : ds[i]? = some d) (q : J.yld i H x H2) :
    ∃ F2, Rel wd K mg (α ++ []) F2 H2 S ∧ Stp α F H [] F2 H2 ∧ DV wd K mg F2 (α ++ []) x d := by
  rcases h.yld F H H2 i x d (Sub.refl F) hr.sub hd q with ⟨e, v⟩ | ⟨T, o, e1, e2, v⟩
  · subst e
    refine ⟨F, ?_, Stp.refl, v.mono (Sub.refl F)⟩
    rw [List.append_nil]; exact hr
  · subst e2
    obtain ⟨a1, a2⟩ := hr.newF (o := o) e1
    exact ⟨_, a1, a2, v.mono (Sub.refl _)⟩
theorem drop_cons {A : Type} {l : List A} {i : Nat} {d : A} (h : l[i]? = some d) : l.drop i = d :: l.drop (i + 1) := by
  obtain ⟨hi, e⟩ := List.getElem?_eq_some_iff.mp h
  rw [List.drop_eq_getElem_cons hi, e]
theorem psd_for {tg iter : Expr} {body : List Stmt} {ri : RA} {g : RG} {r : RS} (hp : PassesOwn (model X.prog X.w) X.A X.env X.xe) (hc : X.calm = true) (hi : PId X W tg iter ri) (hg : PGd X W tg g) (hb : PSds X W body r) (hsx : ∀ x, foldedSetIterable iter X.env x = pure x := by intro _; rfl) : PSd X W (.For tg iter body [] pos) (sFor ri g r) := by
  obtain ⟨ti, p1, s1⟩ := hi.ex
  obtain ⟨tg', p2, s2⟩ := hg.ex
  obtain ⟨tb, p3, s3⟩ := hb.ex
  refine ⟨_, ps_for hp hc p1 p2 p3 hsx, fun α F σ H δ S E hr hs h => ?_⟩
  refine s1 α F σ H δ S _ hr hs (wpS.out h hs fun ds S1 _ J H1 β F1 r1 q1 v1 h1 => ?_)
  have v1 : ItOk X.w X.K X.mg F1 (α ++ β) J ds := v1
  refine ⟨fun i m σ' H' => i + m = ds.length ∧ ∃ γ F' δ' S', Rel X.w X.K X.mg (α ++ β ++ γ) F' H' S' ∧ Sub F1 F' ∧ Slots X.w X.K X.mg F' (α ++ β ++ γ) σ' δ' ∧ wpS X.w X.K X.mg (α ++ β ++ γ) F' H' (forL g r (ds.drop i) δ' S') E W, ⟨ds.length, by omega, [], F1, δ, S1, ?_⟩, fun i m σ' H' ⟨hm, γ, F', δ', S', r2, sb, hs2, h2⟩ => ?_⟩
  · rw [List.append_nil]
    exact ⟨r1, Sub.refl _, hs.mono q1.sub, h1⟩
  · have v2 : ItOk X.w X.K X.mg F' (α ++ β ++ γ) J ds := v1.mono sb
    by_cases hlt : i < ds.length
    · obtain ⟨d, hd⟩ : ∃ d, ds[i]? = some d := ⟨_, List.getElem?_eq_getElem hlt⟩
      refine .inr ⟨v2.go F' H' i (Sub.refl _) r2.sub hlt, fun σ2 H2 => ∃ γ F' δ' S', Rel X.w X.K X.mg (α ++ β ++ γ) F' H2 S' ∧ Sub F1 F' ∧ Slots X.w X.K X.mg F' (α ++ β ++ γ) σ2 δ' ∧ wpS X.w X.K X.mg (α ++ β ++ γ) F' H2 (forL g r (ds.drop (i + 1)) δ' S') E W, fun σ2 H2 z => ⟨m - 1, by omega, by omega, z⟩, fun x H2 hy => ?_⟩
      obtain ⟨F2, r3, q3, v3⟩ := v2.came r2 hd hy
      rw [drop_cons hd] at h2
      have h3 := wpS.step q3 h2
      refine s2 (α ++ β ++ γ ++ []) F2 σ' H2 δ' S' x d _ r3 (hs2.mono q3.sub) v3 (wpS.out h3 (hs2.mono q3.sub) fun δ1 S2 _ σ1 H3 ε F3 r4 q4 v4 h4 => ?_)
      refine s3 (α ++ β ++ γ ++ [] ++ ε) F3 σ1 H3 δ1 S2 _ r4 v4 ?_
      have sb3 : Sub F1 F3 := (sb.trans q3.sub).trans q4.sub
      have ass : ∀ ζ : List Addr, α ++ β ++ γ ++ [] ++ ε ++ ζ = α ++ β ++ (γ ++ ε ++ ζ) := fun ζ => by simp [List.append_assoc]
      cases q : r δ1 S2 with
      | nx δ2 S3 =>
        rw [q] at h4
        intro σ4 H4 ζ F4 r5 q5 v5
        have h5 := wpS.step q5 h4
        rw [ass] at r5 v5 h5
        exact ⟨_, F4, δ2, S3, r5, sb3.trans q5.sub, v5, h5⟩
      | ct δ2 S3 =>
        rw [q] at h4
        intro σ4 H4 ζ F4 r5 q5 v5
        have h5 := wpS.step q5 h4
        rw [ass] at r5 v5 h5
        exact ⟨_, F4, δ2, S3, r5, sb3.trans q5.sub, v5, h5⟩
      | bk δ2 S3 => rw [q] at h4; exact h4
      | rt d S3 => rw [q] at h4; exact h4
      | err c fs δ2 S3 => rw [q] at h4; exact h4
      | stuck => rw [q] at h4; exact h4
    · have e : i = ds.length := by omega
      subst e
      refine .inl ⟨v2.stop F' H' (Sub.refl _) r2.sub, ?_⟩
      rw [List.drop_length] at h2
      exact wpS.nx h2 r2 hs2
theorem psd_while {c : Expr} {body : List Stmt} {r : RS} (fuel : Sl → Sto → Nat) (hp : PassesOwn (model X.prog X.w) X.A X.env X.xe) (hcd : PB X W c ba) (hb : PSds X W body r) : PSd X W (.While c body [] pos) (sWhile fuel ba r) := by
  obtain ⟨tc, p1, s1⟩ := hcd.ex
  obtain ⟨tb, p3, s3⟩ := hb.ex
  refine ⟨_, ps_while hp p1 p3, fun α F σ H δ S E hr hs h => ?_⟩
  refine ⟨fun m σ' H' => ∃ γ F' δ' S', Rel X.w X.K X.mg (α ++ γ) F' H' S' ∧ Slots X.w X.K X.mg F' (α ++ γ) σ' δ' ∧ wpS X.w X.K X.mg (α ++ γ) F' H' (whileL ba r m δ' S') E W, ⟨fuel δ S, [], F, δ, S, ?_⟩, fun m σ' H' ⟨γ, F', δ', S', r2, hs2, h2⟩ => ?_⟩
  · rw [List.append_nil]
    exact ⟨hr, hs, h⟩
  · cases m with
    | zero => exact h2.elim
    | succ m =>
      refine s1 (α ++ γ) F' σ' H' δ' S' _ r2 hs2 (wpS.out h2 hs2 fun k S2 _ x H3 ε F3 r4 q4 v4 h4 => ?_)
      have e : x = k := v4
      subst e
      cases x with
      | false => exact wpS.nx h4 r4 (hs2.mono q4.sub)
      | true =>
        refine ⟨fun σ2 H2 => ∃ γ F' δ' S', Rel X.w X.K X.mg (α ++ γ) F' H2 S' ∧ Slots X.w X.K X.mg F' (α ++ γ) σ2 δ' ∧ wpS X.w X.K X.mg (α ++ γ) F' H2 (whileL ba r m δ' S') E W, fun σ2 H2 z => ⟨m, Nat.lt_succ_self m, z⟩, ?_⟩
        refine s3 (α ++ γ ++ ε) F3 σ' H3 δ' S2 _ r4 (hs2.mono q4.sub) ?_
        have ass : ∀ ζ : List Addr, α ++ γ ++ ε ++ ζ = α ++ (γ ++ ε ++ ζ) := fun ζ => by simp [List.append_assoc]
        rw [if_pos rfl] at h4
        cases q : r δ' S2 with
        | nx δ2 S3 =>
          rw [q] at h4
          intro σ4 H4 ζ F4 r5 q5 v5
          have h5 := wpS.step q5 h4
          rw [ass] at r5 v5 h5
          exact ⟨_, F4, δ2, S3, r5, v5, h5⟩
        | ct δ2 S3 =>
          rw [q] at h4
          intro σ4 H4 ζ F4 r5 q5 v5
          have h5 := wpS.step q5 h4
          rw [ass] at r5 v5 h5
          exact ⟨_, F4, δ2, S3, r5, v5, h5⟩
        | bk δ2 S3 => rw [q] at h4; exact h4
        | rt d S3 => rw [q] at h4; exact h4
        | err c fs δ2 S3 => rw [q] at h4; exact h4
        | stuck => rw [q] at h4; exact h4
end
end DL

set_option Elab.async false
set_option linter.all false
set_option maxRecDepth 100000
set_option maxHeartbeats 4000000
set_option autoImplicit false
/-! Data layer, sixth part: list comprehensions, defs. -/
namespace DL
open PySem PySem.Spec PyProof.Rows L2

abbrev W0 : WX := fun _ _ _ _ => False
section
variable {X : Cx} {W : WX} {a b c e : Expr} {es rest : List Expr} {ra rb rc : RE} {ba bb : RB} {rs : RA} {pos p : Pos} {wd : World} {K : Fg} {mg : Str → Option Value} {α β : List Addr} {F F1 H H1 : Hp} {S : Sto}
/-- an expression's reading by its mirror alone -/
def tCanE (wd : World) (K : Fg) (mg : Str → Option Value) (W : WX) (r : RE) : TE := fun σ H Q => ∃ α F δ S, Rel wd K mg α F H S ∧ Slots wd K mg F α σ δ ∧ wp wd K mg α F H (relD wd K mg) (r δ S) Q (fun c d H' => W c d σ H')
def tCanB (wd : World) (K : Fg) (mg : Str → Option Value) (W : WX) (r : RB) : TT := fun σ H Q => ∃ α F δ S, Rel wd K mg α F H S ∧ Slots wd K mg F α σ δ ∧ wp wd K mg α F H relB (r δ S) Q (fun c d H' => W c d σ H')
theorem PD.can (h : PD X W a ra) : PE X a (tCanE X.w X.K X.mg W ra) := by
  obtain ⟨t, p, s⟩ := h.ex
  exact ⟨fun pins sh σ H Q I ⟨α, F, δ, S, h1, h2, h3⟩ => p.run pins sh σ H Q I (s α F σ H δ S Q h1 h2 h3)⟩
theorem PB.can (h : PB X W a ba) : PT X a (tCanB X.w X.K X.mg W ba) := by
  obtain ⟨t, p, s⟩ := h.ex
  exact ⟨fun pins sh σ H Q I ⟨α, F, δ, S, h1, h2, h3⟩ => p.run pins sh σ H Q I (s α F σ H δ S Q h1 h2 h3)⟩

/-! ### a comprehension's own targets -/
theorem wipe_set {σ : L2.St} {i : Nat} {x : Option V} : ∀ {vs : List Nat}, wipe (σ.set i x) vs = if i ∈ vs then wipe σ vs else (wipe σ vs).set i x
  | [] => rfl
  | v :: vs => by
    unfold wipe
    rw [wipe_set]
    by_cases h : i ∈ vs
    · rw [if_pos h, if_pos (List.mem_cons_of_mem _ h)]
    · rw [if_neg h]
      by_cases z : i = v
      · subst z
        rw [if_pos List.mem_cons_self, List.set_set]
      · rw [if_neg (by intro q; rcases List.mem_cons.mp q with q | q; exact z q; exact h q)]
        exact List.set_comm _ _ z
structure PGx (X : Cx) (vs : List Nat) (tg : Expr) (t : TG) (g : RG) : Prop where
  pg : PG X tg t
  snd : ∀ α F σ H δ S v d (Q : L2.St → Hp → Prop), Rel X.w X.K X.mg α F H S → Slots X.w X.K X.mg F α σ δ → DV X.w X.K X.mg F α v d → wp X.w X.K X.mg α F H (fun F α σ' δ' => Slots X.w X.K X.mg F α σ' δ' ∧ wipe σ' vs = wipe σ vs) (g d δ S) Q (fun _ _ _ => False) → t v σ H Q
  ne : ∀ d δ S c fs S', g d δ S ≠ .err c fs S'
structure PGxs (X : Cx) (vs : List Nat) (tg : List Expr) (t : TGs) (g : List D → Sl → Sto → Res Sl) : Prop where
  pg : PGs X tg t
  snd : ∀ α F σ H δ S v d (Q : L2.St → Hp → Prop), Rel X.w X.K X.mg α F H S → Slots X.w X.K X.mg F α σ δ → DVs X.w X.K X.mg F α v d → wp X.w X.K X.mg α F H (fun F α σ' δ' => Slots X.w X.K X.mg F α σ' δ' ∧ wipe σ' vs = wipe σ vs) (g d δ S) Q (fun _ _ _ => False) → t v σ H Q
  ne : ∀ d δ S c fs S', g d δ S ≠ .err c fs S'
  len : ∀ ds δ S δ' S', g ds δ S = .ok δ' S' → ds.length = tg.length
theorem pgx_name {vs : List Nat} (i : Nat) {x : Str} (hN : X.N.Nodup) (hv : i ∈ vs := by decide) (hi : X.N[i]? = some x := by rfl) (hx : Loc X.env.scope x := by first | exact Or.inl rfl | exact Or.inr rfl) (hf : X.fn x = true ∨ X.env.scope.names.lookup x = some .local := by first | exact .inl rfl | exact .inr rfl | assumption) : PGx X vs (.Name x pos) (L2.gName i) (gName i) := by
  refine ⟨pg_name hN hi hx hf, fun α F σ H δ S v d Q hr hs hd h => ?_, fun d δ S c fs S' h => by unfold gName at h; split at h <;> cases h⟩
  unfold gName at h
  split at h
  · exact h.now hr ⟨hs.set hd, by rw [wipe_set, if_pos hv]⟩
  · exact h.elim
theorem pgxs_nil {vs : List Nat} : PGxs X vs [] L2.gNil gNil := by
  refine ⟨pgs_nil, fun α F σ H δ S v d Q hr hs hv h => ?_, fun d δ S c fs S' h => ?_, fun ds δ S δ' S' h => ?_⟩
  · cases hv with
    | nil => exact ⟨rfl, h.now hr ⟨hs, rfl⟩⟩
    | cons _ _ => exact h.elim
  · cases d <;> cases h
  · cases ds with
    | nil => rfl
    | cons _ _ => cases h
theorem pgxs_cons {vs : List Nat} {t : TG} {t' : TGs} {g : RG} {u : List D → Sl → Sto → Res Sl} (h1 : PGx X vs e t g) (h2 : PGxs X vs es t' u) (hsy : (assignEach (e :: es) X.env).map (·.2) = assign e X.env :: (assignEach es X.env).map (·.2) := by rfl) : PGxs X vs (e :: es) (L2.gCons t t') (gCons g u) := by
  refine ⟨pgs_cons h1.pg h2.pg hsy, fun α F σ H δ S v d Q hr hs hv h => ?_, fun d δ S c fs S' h => ?_, fun ds δ S δ' S' h => ?_⟩
  · cases hv with
    | nil => exact h.elim
    | cons hv ht =>
      rename_i v d vs' ds
      refine ⟨v, vs', rfl, h1.snd α F σ H δ S v d _ hr hs hv (wp.bind h fun δ1 S1 _ σ1 H1 β F1 r1 q1 hs1 q => ?_)⟩
      refine h2.snd (α ++ β) F1 σ1 H1 δ1 S1 vs' ds Q r1 hs1.1 (ht.mono q1.sub) ?_
      rw [hs1.2]
      exact q
  · cases d with
    | nil => cases h
    | cons d r =>
      have h' : (g d δ S).bind (fun δ1 S1 => u r δ1 S1) = .err c fs S' := h
      cases q : g d δ S with
      | ok a S1 => rw [q] at h'; exact h2.ne _ _ _ _ _ _ h'
      | err c fs S1 => exact h1.ne _ _ _ _ _ _ q
      | stuck => rw [q] at h'; cases h'
  · cases ds with
    | nil => cases h
    | cons d r =>
      have h' : (g d δ S).bind (fun δ1 S1 => u r δ1 S1) = .ok δ' S' := h
      cases q : g d δ S with
      | ok a S1 => rw [q] at h'; rw [List.length_cons, List.length_cons, h2.len _ _ _ _ _ h']
      | err c fs S1 => rw [q] at h'; cases h'
      | stuck => rw [q] at h'; cases h'
theorem pgx_tup {vs : List Nat} {k : Nat} {t : TGs} {u : List D → Sl → Sto → Res Sl} (hc : X.calm = true) (h : PGxs X vs es t u) (hn : (assignEach es X.env).length = es.length := by rfl) (hst : (assignEach es X.env).findIdx? (·.1) = none := by rfl) : PGx X vs (.Tuple es k pos) (L2.gTup X.K es.length t) (gTup u) := by
  refine ⟨pg_tup hc h.pg hn hst, fun α F σ H δ S v d Q hr hs hv h0 => ?_, fun d δ S c fs S' h0 => ?_⟩
  · unfold gTup at h0
    cases q : deref S d with
    | tup ds =>
      rw [q] at h0
      dsimp only at h0
      obtain ⟨a, xs, e1, e2, e3⟩ := hr.viewT hv q
      have len : ds.length = es.length := by
        cases q2 : u ds δ S with
        | ok δ' S' => exact h.len _ _ _ _ _ q2
        | err c fs S' => exact absurd q2 (h.ne _ _ _ _ _ _)
        | stuck => rw [q2] at h0; exact h0.elim
      exact ⟨a, xs, e1, e2, by rw [e3.length]; exact len, h.snd α F σ H δ S xs ds Q hr hs e3 h0⟩
    | tux ds =>
      rw [q] at h0
      dsimp only at h0
      obtain ⟨a, xs, e1, e2, e3⟩ := hr.viewX hv q
      have len : ds.length = es.length := by
        cases q2 : u ds δ S with
        | ok δ' S' => exact h.len _ _ _ _ _ q2
        | err c fs S' => exact absurd q2 (h.ne _ _ _ _ _ _)
        | stuck => rw [q2] at h0; exact h0.elim
      exact ⟨a, xs, e1, e2, by rw [e3.length]; exact len, h.snd α F σ H δ S xs ds Q hr hs e3 h0⟩
    | _ => rw [q] at h0; exact h0.elim
  · unfold gTup at h0
    cases q : deref S d with
    | tup ds => rw [q] at h0; exact h.ne _ _ _ _ _ _ h0
    | tux ds => rw [q] at h0; exact h.ne _ _ _ _ _ _ h0
    | _ => rw [q] at h0; cases h0
theorem Slots.wipe {σ : L2.St} {δ : Sl} (h : Slots wd K mg F α σ δ) : ∀ vs : List Nat, Slots wd K mg F α (L2.wipe σ vs) (wipeD δ vs)
  | [] => h
  | v :: vs => by
    have ih := Slots.wipe h vs
    refine ⟨by show ((L2.wipe σ vs).set v none).length = ((wipeD δ vs).set v none).length; rw [List.length_set, List.length_set]; exact ih.1, fun j d e => ?_⟩
    have e' : ((wipeD δ vs).set v none)[j]? = some (some d) := e
    show ∃ w, ((L2.wipe σ vs).set v none)[j]? = some (some w) ∧ _
    by_cases z : v = j
    · subst z
      have hl : v < (wipeD δ vs).length := by
        have := (List.getElem?_eq_some_iff.mp e').1
        rw [List.length_set] at this; exact this
      rw [List.getElem?_set_self hl] at e'
      cases e'
    · rw [List.getElem?_set_ne z] at e' ⊢
      exact ih.2 j d e'

/-- what walks a comprehension: read within its block -/
structure PLc (X : Cx) (vs : List Nat) (scope : Scope) (tg elt : Expr) (ifs : List Expr) (t : TG) (tt : TT) (g : RG) (rt : RB) (re : RE) : Prop where
  g : ∀ (s : Shared) (H : Hp) (C : Addr) (cl : List (Str × Addr)) (fp : List Addr), PGx (X.blk s H scope (compEnvC scope cl C X.env) fp) vs tg t g
  t : ∀ (s : Shared) (H : Hp) (C : Addr) (cl : List (Str × Addr)) (fp : List Addr), PTs (X.blk s H scope (compEnvC scope cl C X.env) fp) ifs tt
  ts : ∀ α F σ H δ S (Q : Bool → Hp → Prop), Rel X.w X.K X.mg α F H S → Slots X.w X.K X.mg F α σ δ → wp X.w X.K X.mg α F H relB (rt δ S) Q (fun _ _ _ => False) → tt σ H Q
  e : ∀ (s : Shared) (H : Hp) (C : Addr) (cl : List (Str × Addr)) (fp : List Addr), PD (X.blk s H scope (compEnvC scope cl C X.env) fp) W0 elt re
theorem plc_no {vs : List Nat} {scope : Scope} {tg elt : Expr} {t : TG} {g : RG} {re : RE} (hg : ∀ (s : Shared) (H : Hp) (C : Addr) (cl : List (Str × Addr)) (fp : List Addr), PGx (X.blk s H scope (compEnvC scope cl C X.env) fp) vs tg t g)
    (he : ∀ (s : Shared) (H : Hp) (C : Addr) (cl : List (Str × Addr)) (fp : List Addr), PD (X.blk s H scope (compEnvC scope cl C X.env) fp) W0 elt re) : PLc X vs scope tg elt [] t tYes g bYes re :=
  ⟨hg, fun _ _ _ _ _ => pts_nil, fun α F σ H δ S Q hr _ h => wp.now (b := true) h hr rfl, he⟩
theorem plc_if {vs : List Nat} {scope : Scope} {tg elt c : Expr} {t : TG} {g : RG} {bc : RB} {re : RE} (hg : ∀ (s : Shared) (H : Hp) (C : Addr) (cl : List (Str × Addr)) (fp : List Addr), PGx (X.blk s H scope (compEnvC scope cl C X.env) fp) vs tg t g)
    (hc : ∀ (s : Shared) (H : Hp) (C : Addr) (cl : List (Str × Addr)) (fp : List Addr), PB (X.blk s H scope (compEnvC scope cl C X.env) fp) W0 c bc) (he : ∀ (s : Shared) (H : Hp) (C : Addr) (cl : List (Str × Addr)) (fp : List Addr), PD (X.blk s H scope (compEnvC scope cl C X.env) fp) W0 elt re) :
    PLc X vs scope tg elt [c] t (tCanB X.w X.K X.mg W0 bc) g bc re :=
  ⟨hg, fun s H C cl fp => pts_one (hc s H C cl fp).can, fun α F σ H δ S Q hr hs h => ⟨α, F, δ, S, hr, hs, h⟩, he⟩
theorem bind_ok {A B : Type} {r : Res A} {f : A → Sto → Res B} {b : B} {S' : Sto} (h : r.bind f = .ok b S') : ∃ a S1, r = .ok a S1 ∧ f a S1 = .ok b S' := by
  cases r with
  | ok a S1 => exact ⟨a, S1, rfl, h⟩
  | err c fs S1 => cases h
  | stuck => cases h
theorem wipe_idem (σ : L2.St) : ∀ vs : List Nat, L2.wipe (L2.wipe σ vs) vs = L2.wipe σ vs
  | [] => rfl
  | v :: vs => by
    show (L2.wipe ((L2.wipe σ vs).set v none) vs).set v none = (L2.wipe σ vs).set v none
    rw [wipe_set, wipe_idem σ vs]
    split
    · rfl
    · rw [List.set_set]
structure Stay (wd : World) (K : Fg) (mg : Str → Option Value) (α : List Addr) (F H : Hp) (ad : Addr) (acc : List V) (accD : List D) (γ : List Addr) (F' H' : Hp) (S' : Sto) : Prop where
  rel : Rel wd K mg (α ++ γ) F' H' S'
  stp : Stp α F H γ F' H'
  nin : ad ∉ α ++ γ
  nF : F' ad = none
  at' : H' ad = some (.lst acc)
  dvs : DVs wd K mg F' (α ++ γ) acc accD
theorem Stay.step {ad : Addr} {acc : List V} {accD : List D} {γ ε : List Addr} {F' H' F2 H2 : Hp} {S' S2 : Sto} (st : Stay wd K mg α F H ad acc accD γ F' H' S') (r : Rel wd K mg (α ++ γ ++ ε) F2 H2 S2) (q : Stp (α ++ γ) F' H' ε F2 H2) : Stay wd K mg α F H ad acc accD (γ ++ ε) F2 H2 S2 := by
  have hn : H' ad ≠ none := by rw [st.at']; exact fun z => nomatch z
  refine ⟨by rw [← List.append_assoc]; exact r, st.stp.trans q, ?_, q.fnew ad st.nin st.nF hn, q.frame ad _ st.nin st.at', by rw [← List.append_assoc]; exact st.dvs.mono q.sub⟩
  rw [← List.append_assoc]
  intro z
  rcases List.mem_append.mp z with z | z
  · exact st.nin z
  · exact hn (q.new ad z)
/-- the loop of a comprehension -/
theorem lc_all {scope : Scope} {vs : List Nat} {tg elt : Expr} {ifs : List Expr} {t : TG} {tt : TT} {g : RG} {rt : RB} {re : RE} (L : PLc X vs scope tg elt ifs t tt g rt re) {σ : L2.St} {δ : Sl} {S1 S2 : Sto} {ds zs : List D} {J : It} {ad : Addr} {Qd : Hp → Prop}
    (hr : Rel X.w X.K X.mg α F H S1) (hs : Slots X.w X.K X.mg F α σ δ) (hJ : ItOk X.w X.K X.mg F α J ds) (hD : H ad = none) (hz : lcL g rt re ds (wipeD δ vs) S1 = .ok zs S2) (hl : zs.length ≤ sizeLine)
    (hq : ∀ H' β F', Rel X.w X.K X.mg (α ++ β) F' H' S2 → Stp α F H β F' H' → ad ∉ α ++ β → F' ad = none → Own X.w X.K X.mg F' (α ++ β) H' ad (.lst zs) → Qd H') :
    ∃ Wl : Nat → Nat → Hp → Prop, (∃ m, Wl 0 m (upd H ad (.lst []))) ∧ ∀ i m H, Wl i m H → (J.stop i H ∧ Qd H) ∨ (J.go i H ∧ ∃ Nx : Hp → Prop, (∀ H', Nx H' → ∃ m', m' < m ∧ Wl (i + 1) m' H') ∧ ∀ x H', J.yld i H x H' → t x (L2.wipe σ vs) H' fun σ2 H2 => L2.wipe σ2 vs = L2.wipe σ vs ∧ tt σ2 H2 fun b H3 =>
      if b = true then tCanE X.w X.K X.mg W0 re σ2 H3 fun y H4 => ∃ acc, H4 ad = some (.lst acc) ∧ acc.length < sizeLine ∧ Nx (upd H4 ad (.lst (acc ++ [y]))) else Nx H3) := by
  refine ⟨fun i m H' => i + m = ds.length ∧ ∃ γ F' S' acc accD, Stay X.w X.K X.mg α F H ad acc accD γ F' H' S' ∧
    (lcL g rt re (ds.drop i) (wipeD δ vs) S').bind (fun ys S3 => .ok (accD ++ ys) S3) = .ok zs S2, ⟨ds.length, by omega, [], F, S1, [], [], ?_, ?_⟩, fun i m H' ⟨hm, γ, F', S', acc, accD, st, eq⟩ => ?_⟩
  · have n := hr.notin hD
    have f := hr.notF hD
    refine ⟨?_, Stp.refl.other hD, ?_, f, upd_same, .nil⟩
    · rw [List.append_nil]; exact hr.other n f
    · rw [List.append_nil]; exact n
  · rw [List.drop_zero, hz]
    rfl
  · have v2 : ItOk X.w X.K X.mg F' (α ++ γ) J ds := hJ.mono st.stp.sub
    by_cases hlt : i < ds.length
    · obtain ⟨d, hd⟩ : ∃ d, ds[i]? = some d := ⟨_, List.getElem?_eq_getElem hlt⟩
      refine .inr ⟨v2.go F' H' i (Sub.refl _) st.rel.sub hlt, fun H4 => ∃ γ F' S' acc accD, Stay X.w X.K X.mg α F H ad acc accD γ F' H4 S' ∧
        (lcL g rt re (ds.drop (i + 1)) (wipeD δ vs) S').bind (fun ys S3 => .ok (accD ++ ys) S3) = .ok zs S2, fun H4 z => ⟨m - 1, by omega, by omega, z⟩, fun x H2 hy => ?_⟩
      obtain ⟨F2, r3, q3, v3⟩ := v2.came st.rel hd hy
      have st3 := st.step r3 q3
      rw [drop_cons hd] at eq
      obtain ⟨ys, S3, eq1, eq2⟩ := bind_ok eq
      cases eq2
      unfold lcL at eq1
      obtain ⟨δ1, S4, eg, eq1⟩ := bind_ok eq1
      obtain ⟨k, S5, et, eq1⟩ := bind_ok eq1
      have hs3 : Slots X.w X.K X.mg F2 (α ++ γ ++ []) (L2.wipe σ vs) (wipeD δ vs) := (((hs.mono st.stp.sub).mono q3.sub).wipe vs)
      refine (L.g X.s_0 H 0 [] []).snd (α ++ γ ++ []) F2 (L2.wipe σ vs) H2 (wipeD δ vs) S' x d _ r3 hs3 v3 ?_
      rw [eg]
      intro σ1 H5 ε F5 r5 q5 ⟨hs5, hw⟩
      rw [List.append_assoc α γ []] at q5 r5 hs5
      have st5 := st3.step r5 q5
      refine ⟨hw.trans (wipe_idem σ vs), ?_⟩
      refine L.ts _ F5 σ1 H5 δ1 S4 _ r5 hs5 ?_
      rw [et]
      intro b H6 ζ F6 r6 q6 eb
      have eb : b = k := eb
      subst eb
      rw [List.append_assoc α (γ ++ []) ε] at q6 r6
      have st6 := st5.step r6 q6
      cases b with
      | false =>
        rw [if_neg (by decide)]
        rw [if_neg (by decide)] at eq1
        exact ⟨_, F6, S5, acc, accD, st6, by rw [eq1]; rfl⟩
      | true =>
        rw [if_pos rfl]
        rw [if_pos rfl] at eq1
        obtain ⟨y, S6, ey, eq1⟩ := bind_ok eq1
        obtain ⟨ys', S7, er, eq1⟩ := bind_ok eq1
        cases eq1
        have hs6 := hs5.mono (β := ζ) q6.sub
        rw [List.append_assoc α (γ ++ []) ε] at hs6
        refine ⟨_, F6, δ1, S5, r6, hs6, ?_⟩
        rw [ey]
        intro v H7 η F7 r7 q7 v7
        rw [List.append_assoc α (γ ++ [] ++ ε) ζ] at q7 r7 v7
        have st7 := st6.step r7 q7
        have hlen : acc.length < sizeLine := by
          have e1 := st.dvs.length
          rw [List.length_append, List.length_cons] at hl
          omega
        have v7 : DV X.w X.K X.mg F7 _ v y := v7
        refine ⟨acc, st7.at', hlen, _, F7, S6, acc ++ [v], accD ++ [y], ⟨st7.rel.other st7.nin st7.nF, ?_, st7.nin, st7.nF, upd_same, st7.dvs.append (.cons ?_ .nil)⟩, ?_⟩
        · exact st7.stp.other hD
        · simpa only [List.append_assoc] using v7
        · rw [er]
          show Res.ok (accD ++ [y] ++ ys') _ = _
          rw [List.append_assoc] <;> rfl
    · have e : i = ds.length := by omega
      subst e
      rw [List.drop_length] at eq
      have eq' : Res.ok (accD ++ []) S' = Res.ok zs S2 := eq
      rw [List.append_nil] at eq'
      cases eq'
      exact .inl ⟨v2.stop F' H' (Sub.refl _) st.rel.sub, hq H' γ F' st.rel st.stp st.nin st.nF ⟨acc, st.at', st.dvs⟩⟩
/-- a mirror that came to a list that fits -/
theorem lc_fits {g : RG} {rt : RB} {re : RE} {vs : List Nat} {δ : Sl} {S1 : Sto} {ds : List D} {Q : VK} {W : XK} (h : wpF wd K mg α F H ((noErr (lcL g rt re ds (wipeD δ vs) S1)).bind fun ys S2 => if ys.length ≤ sizeLine then .ok (.lst ys) S2 else .stuck) Q W) :
    ∃ zs S2, lcL g rt re ds (wipeD δ vs) S1 = .ok zs S2 ∧ zs.length ≤ sizeLine ∧ wpF wd K mg α F H (.ok (.lst zs) S2) Q W := by
  cases q : lcL g rt re ds (wipeD δ vs) S1 with
  | ok zs S2 =>
    rw [q] at h
    have h' : wpF wd K mg α F H (if zs.length ≤ sizeLine then .ok (.lst zs) S2 else .stuck) Q W := h
    split at h'
    · rename_i hl; exact ⟨zs, S2, rfl, hl, h'⟩
    · exact h'.elim
  | err c fs S2 => rw [q] at h; exact h.elim
  | stuck => rw [q] at h; exact h.elim
def sndLc (X : Cx) (wi : TI) (vs : List Nat) (t : TG) (tt : TT) (re : RE) : TE := tLc wi t tt (tCanE X.w X.K X.mg W0 re) vs
theorem lc_snd {ri : RA} {wi : TI} {scope : Scope} {vs : List Nat} {tg elt : Expr} {ifs : List Expr} {t : TG} {tt : TT} {g : RG} {rt : RB} {re : RE} (si : SndI X.w X.K X.mg W wi ri) (L : PLc X vs scope tg elt ifs t tt g rt re) {σ : L2.St} {δ : Sl} {Q : VK}
    (hr : Rel X.w X.K X.mg α F H S) (hs : Slots X.w X.K X.mg F α σ δ) (h : wpF X.w X.K X.mg α F H (rLc ri g vs rt re δ S) Q (fun c d H' => W c d σ H')) : tLc wi t tt (tCanE X.w X.K X.mg W0 re) vs σ H Q := by
  refine si α F σ H δ S _ hr hs (wpF.bind h fun ds S1 _ J H1 β F1 r1 q1 v1 h1 => ?_)
  intro ad hD
  obtain ⟨zs, S2, e1, e2, h2⟩ := lc_fits h1
  refine lc_all (Qd := fun H' => Q (.ref ad) H') L r1 (hs.mono q1.sub) v1 hD e1 e2 fun H' γ F' r2 q2 n f o => ?_
  exact h2 ad H' γ F' r2 q2 hD n f o rfl
theorem pf_lc {tg iter elt : Expr} {ifs : List Expr} {scope : Scope} {own : List (Str × Nat)} {t : TG} {tt : TT} {ri : RA} {g : RG} {rt : RB} {re : RE} (hc : X.calm = true) (hN : X.N.Nodup) (hi : PId X W tg iter ri) (ok : BlkOk X.N X.env.scope scope own) (L : PLc X (own.map (·.2)) scope tg elt ifs t tt g rt re)
    (hsx : ∀ x, foldedSetIterable iter X.env x = pure x := by intro _; rfl) : PF X W (.ListComp elt [⟨tg, iter, ifs, 0⟩] scope pos) (rLc ri g (own.map (·.2)) rt re) := by
  obtain ⟨wi, p1, s1⟩ := hi.ex
  exact ⟨_, pe_lc hc hN p1 ok (fun s H C cl fp => (L.g s H C cl fp).pg) L.t (fun s H C cl fp => (L.e s H C cl fp).can) hsx, fun α F σ H δ S Q hr hs h => lc_snd s1 L hr hs h⟩
/-- what is done with a made list: it is the store's, or stands for good -/
theorem wpF.keep {r : Res D} {σ : L2.St} {Q : VK} (h : wp wd K mg α F H (relD wd K mg) (r.bind fun d S1 => match d with | .lst ds => .ok (.lst ds) S1 | _ => .stuck) Q (fun c d H' => W c d σ H')) : wpF wd K mg α F H r Q (fun c d H' => W c d σ H') := by
  cases r with
  | ok d S' =>
    intro p H' β F' r1 s1 hp ha hf ho hd
    cases d with
    | lst ds =>
      have h2 : wp wd K mg α F H (relD wd K mg) (.ok (.lst ds) S') Q _ := h
      obtain ⟨xs, o1, o2⟩ := ho
      obtain ⟨a1, a2⟩ := r1.freeze (o := .lst xs) ha hf o1
      exact h2 (.ref p) H' β (upd F' p (.lst xs)) a1 ⟨s1.new, s1.sub.trans a2, s1.frame, s1.live, fun a g1 g2 g3 => by
        have z : a ≠ p := fun z => g3 (z ▸ hp)
        rw [upd_ne z]; exact s1.fnew a g1 g2 g3⟩ (.lst (.inl (Rd.of upd_same)) (by have := o2.mono (β := []) a2; rw [List.append_nil] at this; exact this))
    | _ => exact (show False from h).elim
  | err c fs S' => exact h
  | stuck => exact h
theorem wpF.ownd {r : Res D} {σ : L2.St} {Q : VK} (h : wp wd K mg α F H (relD wd K mg) (r.bind fun d S1 => .ok (.ptr S1.length) (S1 ++ [d])) Q (fun c d H' => W c d σ H')) : wpF wd K mg α F H r Q (fun c d H' => W c d σ H') := by
  cases r with
  | ok d S' =>
    intro p H' β F' r1 s1 hp ha hf ho hd
    have h2 : wp wd K mg α F H (relD wd K mg) (.ok (.ptr S'.length) (S' ++ [d])) Q _ := h
    refine h2 (.ref p) H' (β ++ [p]) F' ?_ ⟨fun b hb => ?_, s1.sub, s1.frame, s1.live, s1.fnew⟩ ?_
    · rw [← List.append_assoc]
      exact r1.adopt ha hf ho hd
    · rcases List.mem_append.mp hb with z | z
      · exact s1.new b z
      · have : b = p := by simpa using z
        rw [this]; exact hp
    · rw [← List.append_assoc]
      refine .ptr ?_
      rw [List.getElem?_append_right (by rw [r1.len]; exact Nat.le_refl _), r1.len, Nat.sub_self] <;> rfl
  | err c fs S' => exact h
  | stuck => exact h
/-- name = [..] on one line -/
theorem psd_setLc {i : Nat} {y : Str} {py pos' : Pos} {tg iter elt : Expr} {ifs : List Expr} {scope : Scope} {own : List (Str × Nat)} {t : TG} {tt : TT} {ri : RA} {g : RG} {rt : RB} {re : RE} (hc : X.calm = true) (hN : X.N.Nodup) (hi : PId X W tg iter ri) (ok : BlkOk X.N X.env.scope scope own) (L : PLc X (own.map (·.2)) scope tg elt ifs t tt g rt re)
    (hsw : swapsWith (.ListComp elt [⟨tg, iter, ifs, 0⟩] scope pos) (some (.Name y py)) pos'.line X.env = pure true) (hy : X.N[i]? = some y := by rfl) (hyl : X.env.scope.names.lookup y = some .local := by rfl) (hsx : ∀ x, foldedSetIterable iter X.env x = pure x := by intro _; rfl) :
    PSd X W (.Assign [.Name y py] (.ListComp elt [⟨tg, iter, ifs, 0⟩] scope pos) pos') (sAsg (rKeep (rLc ri g (own.map (·.2)) rt re)) (gName i)) ∧ PSd X W (.Assign [.Name y py] (.ListComp elt [⟨tg, iter, ifs, 0⟩] scope pos) pos') (sAsg (rOwn (rLc ri g (own.map (·.2)) rt re)) (gName i)) := by
  obtain ⟨wi, p1, s1⟩ := hi.ex
  have P := ps_setLc (te := tCanE X.w X.K X.mg W0 re) (i := i) hc hN hy hyl hsw p1 ok (fun s H C cl fp => (L.g s H C cl fp).pg) L.t (fun s H C cl fp => (L.e s H C cl fp).can) hsx
  have nm : ∀ {α β : List Addr} {F F1 H H1 : Hp} {S1 : Sto} {σ : L2.St} {δ : Sl} {E : Ends} {d : D} {v : V}, Slots X.w X.K X.mg F α σ δ → Rel X.w X.K X.mg (α ++ β) F1 H1 S1 → Stp α F H β F1 H1 → DV X.w X.K X.mg F1 (α ++ β) v d → wpS X.w X.K X.mg (α ++ β) F1 H1 ((gName i d δ S1).out δ fun δ1 S2 => .nx δ1 S2) E W → E.nx (σ.set i (some v)) H1 := by
    intro α β F F1 H H1 S1 σ δ E d v hs hr st hv h
    unfold gName at h
    split at h
    · exact wpS.nx h hr ((hs.mono st.sub).set hv)
    · exact h.elim
  refine ⟨⟨_, P, fun α F σ H δ S E hr hs h => ?_⟩, ⟨_, P, fun α F σ H δ S E hr hs h => ?_⟩⟩
  · exact lc_snd s1 L hr hs (wpF.keep (wpS.out h hs fun d S1 _ x H1 β F1 r1 q1 v1 h1 => nm hs r1 q1 v1 h1))
  · exact lc_snd s1 L hr hs (wpF.ownd (wpS.out h hs fun d S1 _ x H1 β F1 r1 q1 v1 h1 => nm hs r1 q1 v1 h1))

/-! ### defs -/
theorem closedK_snd {n : Nat} : ∀ {kvs : List (D × D)}, closedK n kvs = true → closedL n (kvs.map (·.2)) = true
  | [], _ => rfl
  | (k, v) :: r, h => by
    unfold closedK at h
    rw [Bool.and_eq_true, Bool.and_eq_true] at h
    show (D.closed n v && closedL n (r.map (·.2))) = true
    rw [h.1.2, closedK_snd h.2]
    rfl
mutual
theorem DV.shrink {v : V} {d : D} : D.closed α.length d = true → DV wd K mg F (α ++ β) v d → DV wd K mg F α v d
  | _, .non => .non
  | _, .bl b => .bl b
  | _, .int i => .int i
  | _, .str x => .str x
  | h, .tup a t => .tup a (DVs.shrink (by simpa [D.closed] using h) t)
  | h, .tux a t => .tux a (DVs.shrink (by simpa [D.closed] using h) t)
  | h, .lst a t => .lst a (DVs.shrink (by simpa [D.closed] using h) t)
  | h, .ptr e => by
    rename_i k a
    have hk : k < α.length := by simpa [D.closed] using h
    rw [List.getElem?_append_left hk] at e
    exact .ptr e
  | _, .fn e => .fn e
  | _, .ty n => .ty n
theorem DVs.shrink {vs : List V} {ds : List D} : closedL α.length ds = true → DVs wd K mg F (α ++ β) vs ds → DVs wd K mg F α vs ds
  | _, .nil => .nil
  | h, .cons a t => by
    unfold closedL at h
    rw [Bool.and_eq_true] at h
    exact .cons (DV.shrink h.1 a) (DVs.shrink h.2 t)
end
theorem NVs.shrink {xs : List (NestedKey × Addr × V)} : ∀ {kvs : List (D × D)}, closedK α.length kvs = true → NVs wd K mg F (α ++ β) xs kvs → NVs wd K mg F α xs kvs := fun {kvs} h q => by
  induction q with
  | nil => exact .nil
  | cons h1 h2 h3 h4 h6 _ ih =>
    unfold closedK at h
    rw [Bool.and_eq_true, Bool.and_eq_true] at h
    exact .cons h1 h2 (h3.shrink h.1.1) h4 (h6.shrink h.1.2) (ih h.2)
theorem Own.shrink {a : Addr} {d : D} (o : Own wd K mg F (α ++ β) H a d) (hc : D.closed α.length d = true) : Own wd K mg F α H a d := by
  cases d with
  | lst ds => obtain ⟨xs, e1, e2⟩ := o; exact ⟨xs, e1, e2.shrink (by simpa [D.closed] using hc)⟩
  | dct kvs => obtain ⟨ws, e1, e2, e3⟩ := o; exact ⟨ws, e1, e2, e3.shrink (closedK_snd (by simpa [D.closed] using hc))⟩
  | dcn kvs => obtain ⟨ws, e1, e2⟩ := o; exact ⟨ws, e1, e2.shrink (by simpa [D.closed] using hc)⟩
  | lck u =>
    cases u with
    | dct kvs => obtain ⟨o, ws, e0, e1, e2, e3⟩ := o; exact ⟨o, ws, e0, e1, e2, e3.shrink (closedK_snd (by simpa [D.closed] using hc))⟩
    | dcn kvs => obtain ⟨o, ws, e0, e1, e2⟩ := o; exact ⟨o, ws, e0, e1, e2.shrink (by simpa [D.closed] using hc)⟩
    | _ => exact o.elim
  | non => trivial
  | _ => exact o.elim
theorem closedL_get {n : Nat} : ∀ {ds : List D} {k : Nat} {d : D}, closedL n ds = true → ds[k]? = some d → D.closed n d = true
  | [], _, _, _, e => by simp at e
  | d :: r, 0, _, h, e => by
    unfold closedL at h
    rw [Bool.and_eq_true] at h
    simp at e; subst e
    exact h.1
  | d :: r, k + 1, _, h, e => by
    unfold closedL at h
    rw [Bool.and_eq_true] at h
    exact closedL_get (k := k) h.2 (by simpa using e)
theorem Rel.trunc (r : Rel wd K mg (α ++ β) F H S) (h : closedL α.length (S.take α.length) = true) : Rel wd K mg α F H (S.take α.length) := by
  have hl := r.len
  rw [List.length_append] at hl
  refine ⟨r.sub, by rw [List.length_take]; omega, (List.nodup_append.mp r.nd).1, fun a ha => r.here a (List.mem_append_left _ ha), fun k a d h1 h2 => ?_⟩
  have hk : k < α.length := (List.getElem?_eq_some_iff.mp h1).1
  have hc := closedL_get h h2
  rw [List.getElem?_take, if_pos hk] at h2
  obtain ⟨o, q⟩ := r.own k a d (by rw [List.getElem?_append_left hk]; exact h1) h2
  exact ⟨o.shrink hc, q⟩
theorem Rel.give {k : Nat} {a : Addr} {u : D} (r : Rel wd K mg (α ++ β) F H S) (hc : closedL α.length (S.take α.length) = true) (ha : (α ++ β)[k]? = some a) (hk : α.length ≤ k) (hu : S[k]? = some u) (ho : u.owned = true) (hd : D.closed α.length u = true) : a ∈ β ∧ Rel wd K mg (α ++ [a]) F H (S.take α.length ++ [u]) := by
  have r0 := Rel.trunc r hc
  have hb : a ∈ β := by
    rw [List.getElem?_append_right hk] at ha
    exact List.mem_of_getElem? ha
  have hn : a ∉ α := fun h => (List.nodup_append.mp r.nd).2.2 a h a hb rfl
  have hz : u.open = true := by cases u <;> first | rfl | cases ho
  obtain ⟨o1, o2⟩ := r.own k a u ha hu
  exact ⟨hb, r0.adopt hn (o2 hz) (o1.shrink hd) hz⟩
theorem Stp.one {F' H' : Hp} {a : Addr} (s : Stp α F H β F' H') (h : a ∈ β) : Stp α F H [a] F' H' := ⟨fun b hb => by rw [List.mem_singleton.mp hb]; exact s.new a h, s.sub, s.frame, s.live, s.fnew⟩
theorem Stp.drop {F' H' : Hp} (s : Stp α F H β F' H') : Stp α F H [] F' H' := ⟨(fun _ h => nomatch h), s.sub, s.frame, s.live, s.fnew⟩
theorem slots_start {N : List Str} {vs : List V} {ds : List D} (hv : DVs wd K mg F α vs ds) : Slots wd K mg F α (L2.start N vs) (ds.map some ++ List.replicate (N.length - ds.length) none) := by
  have hl := hv.length
  refine ⟨by unfold L2.start; simp [hl], fun i d e => ?_⟩
  unfold L2.start
  by_cases h : i < ds.length
  · rw [List.getElem?_append_left (by simpa using h), List.getElem?_map] at e
    obtain ⟨d', e1⟩ : ∃ d', ds[i]? = some d' := ⟨_, List.getElem?_eq_getElem h⟩
    rw [e1] at e
    have : d' = d := by simpa using e
    subst this
    obtain ⟨v, e2, e3⟩ := hv.get e1
    refine ⟨v, ?_, e3⟩
    rw [List.getElem?_append_left (by rw [List.length_map, hl]; exact h), List.getElem?_map, e2] <;> rfl
  · rw [List.getElem?_append_right (by simpa using h), List.getElem?_replicate] at e
    split at e <;> cases e
theorem fn_G {P : Program} {w : World} {base : Heap} {x qual : Str} {st : Stmt} {f : Addr} {fd : FuncData} {N ps : List Str} {k : Nat} {sp : Sp} (Fu : Fun K x qual st f fd) (Sc : FnScope N ps (defScope st)) (len : ∀ vs H Q E, sp vs H Q E → vs.length = ps.length)
    (hbody : ∀ (cdv : Value) (A : Around) (outer : List Env) (s : Shared) (H : Hp) (vs : List V) (Q : VK) (E : XK), Room k (A.deeper (envOfC qual (defScope st) s.heap.objs.size f cdv)) → A.guards = some [] → sp vs H Q E →
      ∃ t, PSs (cxOf (L2.CX P w) P w K mg base N qual (defScope st) f cdv A outer s H E) (defBody st) t ∧ t ⟨fun _ H' => Q .non H', Q, fun _ _ => False, fun _ _ => False⟩ (L2.start N vs) H) : FnG P w K mg base (k + 1) f fd ps sp := by
  obtain ⟨oc, od, kV, doc, pm, an, cdv, ct, osl, rfl, lk, hcd⟩ := Fu.ex
  refine ⟨len, fun A outer s H args us vs Q E room hG e0 hb rv hsp => ?_⟩
  have kin : K.In s.heap := e0.mod.kin.keeps fun b o e => (e0.bs b o e).1
  have names : ∀ y ∈ ps.zip us, (defScope st).names.lookup y.1 = some .local ∨ ((defScope st).names.lookup y.1 = some .cell ∧ ((cellsFrom (s.heap.objs.size + 1) (defScope st).names []).lookup y.1).isSome = true) := fun y hy =>
    (Sc.par y.1 (List.of_mem_zip hy).1).imp id fun q => ⟨q, PySem.W.cellsFrom_some _ _ _ (.inl q)⟩
  refine codeAny_call_function room.depth (kin _ _ lk) rfl Sc.co Sc.gen rfl (PySem.W.codeRec_of kin hcd) (hb _ _ _ _ (wpAny_newFunctionEnv_cells Sc.kind names fun env he s1 x => ?_))
  subst he
  refine ⟨(e0.mod.nolimit.keeps fun b o e => (e0.bs b o e).1).keeps x.toInCall.keep, codeAny_func ?_⟩
  obtain ⟨t, ht, hq⟩ := hbody cdv A outer s H vs Q E (room.deeper _) hG hsp
  refine wpAny_mono (ht.run [] s1 (L2.start N vs) H _ (inv_start Sc room.hd e0 (len _ _ _ _ hsp) rv x) hq) ?_ fun _ _ hs => hs
  intro fl s' hs
  cases fl with
  | ret u =>
    obtain ⟨v, _, H', J, r, q⟩ := hs
    exact ⟨v, H', J.os, J.bare, J.base, J.hok, r, q⟩
  | next =>
    obtain ⟨_, H', J, q⟩ := hs
    exact ⟨V.non, H', J.os, J.bare, J.base, J.hok, rfl, q⟩
  | brk => obtain ⟨_, _, _, q⟩ := hs; exact q.elim
  | cont => obtain ⟨_, _, _, q⟩ := hs; exact q.elim
theorem fn_okD {P : Program} {w : World} {base : Heap} {x qual : Str} {st : Stmt} {f : Addr} {fd : FuncData} {N ps : List Str} {k : Nat} {r : RS} (Fu : Fun K x qual st f fd) (Sc : FnScope N ps (defScope st))
    (hbody : ∀ (cdv : Value) (A : Around) (outer : List Env) (s : Shared) (H : Hp) (E : XK), Room k (A.deeper (envOfC qual (defScope st) s.heap.objs.size f cdv)) → A.guards = some [] → PSds (cxOf (L2.CX P w) P w K mg base N qual (defScope st) f cdv A outer s H E) (fun cls d _ H => E cls d H) (defBody st) r) :
    FnG P w K mg base (k + 1) f fd ps (spD w K mg ps.length (mDef N.length r)) := by
  refine fn_G Fu Sc (fun vs H Q E h => h.1) fun cdv A outer s H vs Q E hr hG h => ?_
  obtain ⟨hl, α, F, S, ds, h1, h2, h3⟩ := h
  obtain ⟨t, pt, st⟩ := (hbody cdv A outer s H E hr hG).ex
  refine ⟨t, pt, st α F _ H _ S _ h1 (slots_start h2) ?_⟩
  have h3 : wp w K mg α F H (relD w K mg) (mDef N.length r ds S) Q E := h3
  have hl : α.length = S.length := h1.len
  unfold mDef at h3
  rw [← hl] at h3
  have an : α ++ [] = α := List.append_nil α
  cases q : r (ds.map some ++ List.replicate (N.length - ds.length) none) S with
  | nx δ S1 =>
    rw [q] at h3
    dsimp only at h3
    split at h3
    · rename_i hc
      intro σ' H' β F' r1 s1 _
      exact h3 .non H' [] F' (by rw [an]; exact Rel.trunc r1 hc) s1.drop .non
    · exact h3.elim
  | rt d S1 =>
    rw [q] at h3
    dsimp only at h3
    split at h3
    · rename_i hc
      rw [Bool.and_eq_true] at hc
      intro v H' β F' r1 s1 hv
      exact h3 v H' [] F' (by rw [an]; exact Rel.trunc r1 hc.2) s1.drop (by rw [an]; exact DV.shrink hc.1 hv)
    · unfold giveD at h3
      cases d with
      | ptr k =>
        dsimp only at h3
        cases q2 : S1[k]? with
        | none => rw [q2] at h3; exact h3.elim
        | some u =>
          rw [q2] at h3
          dsimp only at h3
          split at h3
          · rename_i hc
            rw [Bool.and_eq_true, Bool.and_eq_true, Bool.and_eq_true, decide_eq_true_eq] at hc
            intro v H' β F' r1 s1 hv
            cases hv with
            | ptr ea =>
              rename_i a
              obtain ⟨g1, g2⟩ := Rel.give r1 hc.2 ea hc.1.2 q2 hc.1.1.1 hc.1.1.2
              exact h3 (.ref a) H' [a] F' g2 (s1.one g1) (.ptr (by rw [List.getElem?_append_right (Nat.le_refl _), Nat.sub_self]; rfl))
          · exact h3.elim
      | _ => exact h3.elim
  | err c fs δ S1 =>
    rw [q] at h3
    dsimp only at h3
    split at h3
    · rename_i hc
      rw [Bool.and_eq_true] at hc
      intro cls dd σ' H' β F' r1 s1 _ he
      refine h3 cls dd H' [] F' (by rw [an]; exact Rel.trunc r1 hc.2) s1.drop ?_
      rw [an]
      refine ⟨he.1, he.2.imp id fun ⟨d, xs, e1, e2, e3, e4⟩ => ⟨d, xs, e1, e2, e3, DVs.shrink hc.1 e4⟩⟩
    · exact h3.elim
  | bk δ S1 => rw [q] at h3; exact h3.elim
  | ct δ S1 => rw [q] at h3; exact h3.elim
  | stuck => rw [q] at h3; exact h3.elim

/-! ### ghost steps -/
theorem psds_freeze {sts : List Stmt} {i : Nat} {r : RS} (h : PSds X W sts r) : PSds X W sts (sSeq (sFreeze i) r) := by
  obtain ⟨t, pt, st⟩ := h.ex
  refine ⟨t, pt, fun α F σ H δ S E hr hs h => ?_⟩
  unfold sSeq sFreeze at h
  cases q : δ[i]? with
  | none => rw [q] at h; exact h.elim
  | some o =>
    rw [q] at h
    cases o with
    | none => exact h.elim
    | some d =>
      cases d with
      | ptr k =>
        cases q2 : S[k]? with
        | none => simp only [q2] at h; exact h.elim
        | some u =>
          cases u with
          | lst ds =>
            simp only [q2] at h
            obtain ⟨v, e1, e2⟩ := hs.2 i _ q
            cases e2 with
            | ptr ea =>
              rename_i a
              obtain ⟨o1, o2⟩ := hr.own k a _ ea q2
              obtain ⟨xs, o3, o4⟩ := o1
              have hf := o2 rfl
              have sb : Sub F (upd F a (.lst xs)) := Sub.new hf
              have an : α ++ [] = α := List.append_nil α
              have st1 : Stp α F H [] (upd F a (.lst xs)) H := ⟨(fun _ h => nomatch h), sb, fun _ _ _ h => h, fun _ h => h, fun b h1 h2 _ => by
                have z : b ≠ a := fun z => h1 (z ▸ List.mem_of_getElem? ea)
                rw [upd_ne z]; exact h2⟩
              have rl : Rel X.w X.K X.mg α (upd F a (.lst xs)) H (S.set k .non) := by
                refine ⟨fun b u e => ?_, by rw [List.length_set]; exact hr.len, hr.nd, hr.here, fun j b u g1 g2 => ?_⟩
                · by_cases z : b = a
                  · subst z; rw [upd_same] at e; rw [o3]; exact e
                  · rw [upd_ne z] at e; exact hr.sub _ _ e
                · by_cases z : j = k
                  · subst z
                    rw [List.getElem?_set_self (List.getElem?_eq_some_iff.mp q2).1] at g2
                    cases g2
                    exact ⟨trivial, fun z => (nomatch z)⟩
                  · rw [List.getElem?_set_ne (Ne.symm z)] at g2
                    obtain ⟨h3, h4⟩ := hr.own j b u g1 g2
                    have y : b ≠ a := fun y => by
                      subst y
                      exact z ((List.getElem_inj hr.nd).mp ((List.getElem?_eq_some_iff.mp g1).2.trans (List.getElem?_eq_some_iff.mp ea).2.symm))
                    have h5 : Own X.w X.K X.mg (upd F a (.lst xs)) (α ++ []) H b u := h3.mono sb rfl
                    rw [an] at h5
                    exact ⟨h5, fun hd => by rw [upd_ne y]; exact h4 hd⟩
              have hs1 : Slots X.w X.K X.mg (upd F a (.lst xs)) α σ δ := by have := hs.mono (β := []) sb; rw [an] at this; exact this
              have hs2 : Slots X.w X.K X.mg (upd F a (.lst xs)) α σ (δ.set i (some (.lst ds))) := by
                refine ⟨by rw [List.length_set]; exact hs1.1, fun j d g => ?_⟩
                by_cases z : j = i
                · subst z
                  rw [List.getElem?_set_self (List.getElem?_eq_some_iff.mp q).1] at g
                  cases g
                  exact ⟨_, e1, .lst (.inl (Rd.of upd_same)) (by have := o4.mono (β := []) sb; rw [an] at this; exact this)⟩
                · rw [List.getElem?_set_ne (Ne.symm z)] at g
                  exact hs1.2 j d g
              have h2 := wpS.step st1 h
              rw [an] at h2
              exact st α _ σ H _ _ E rl hs2 h2
          | _ => simp only [q2] at h; exact h.elim
      | _ => exact h.elim
end
end DL

set_option Elab.async false
set_option linter.all false
set_option maxRecDepth 100000
set_option maxHeartbeats 4000000
set_option autoImplicit false
/-! Data layer, seventh part: operators on data. -/
namespace DL
open PySem PySem.Spec PyProof.Rows L2

/-! ### what they come to -/
def gAdd : Sto → D → D → Option D := fun S d e => match deref S d, deref S e with
  | .int i, .int j => some (.int (i + j))
  | .str x, .str y => if x.length + y.length ≤ sizeLine then some (.str (x ++ y)) else none
  | .tup xs, .tup ys => if xs.length + ys.length ≤ sizeLine then some (.tup (xs ++ ys)) else none
  | _, _ => none
def gCat : Sto → D → D → Option D := fun S d e => match deref S d, deref S e with
  | .lst xs, .lst ys => if xs.length + ys.length ≤ sizeLine then some (.lst (xs ++ ys)) else none
  | _, _ => none
def gSub : Sto → D → D → Option D := fun _ d e => match d, e with
  | .int i, .int j => some (.int (i - j))
  | _, _ => none
/-- the sizes of two factors -/
def mulFits (i j : Int) : Bool := decide (i.natAbs.log2 + j.natAbs.log2 < 1000000) || (decide (i.natAbs < 2 ^ 64) || decide (j.natAbs < 2 ^ 64))
def gMul : Sto → D → D → Option D := fun _ d e => match d, e with
  | .int i, .int j => if mulFits i j then some (.int (i * j)) else none
  | _, _ => none
def gRep : Sto → D → D → Option D := fun S d e => match deref S d, e with
  | .lst xs, .int k => if -(2 ^ 63) ≤ k ∧ k < 2 ^ 63 ∧ xs.length * k.toNat ≤ sizeLine then some (.lst (List.replicate k.toNat xs).flatten) else none
  | _, _ => none
def gDiv : Sto → D → D → Option D := fun _ d e => match d, e with
  | .int i, .int j => if j ≠ 0 ∧ j.natAbs.log2 < 9000 then some (.int (i.fdiv j)) else none
  | _, _ => none
def gMod : Sto → D → D → Option D := fun _ d e => match d, e with
  | .int i, .int j => if j ≠ 0 then some (.int (i.fmod j)) else none
  | _, _ => none
def gPow : Sto → D → D → Option D := fun _ d e => match d, e with
  | .int i, .int j => if 0 ≤ j ∧ ((j ≤ 1000000 ∧ i.natAbs < 2 ^ 64) ∨ (Builtin.Int.intBits i : Int) * j ≤ 2 ^ 27) then some (.int (i ^ j.toNat)) else none
  | _, _ => none
def gNeg : Sto → D → Option D := fun _ d => match d with
  | .int i => some (.int (-i))
  | _ => none
def gLt : Sto → D → D → Option D := fun _ d e => match d, e with
  | .int i, .int j => some (.bl (decide (i < j)))
  | _, _ => none
def gLe : Sto → D → D → Option D := fun _ d e => match d, e with
  | .int i, .int j => some (.bl (decide (i ≤ j)))
  | _, _ => none
def gGt : Sto → D → D → Option D := fun _ d e => match d, e with
  | .int i, .int j => some (.bl (decide (j < i)))
  | _, _ => none
def gGe : Sto → D → D → Option D := fun _ d e => match d, e with
  | .int i, .int j => some (.bl (decide (j ≤ i)))
  | _, _ => none
mutual
/-- as the model's data -/
def toPy (S : Sto) : D → Option PyData
  | .non => some .none
  | .bl b => some (.bool b)
  | .int i => some (.int i)
  | .str x => some (.str x)
  | .tup xs => (toPys S xs).map .tuple
  | .lst xs => (toPys S xs).map .list
  | _ => none
def toPys (S : Sto) : List D → Option (List PyData)
  | [] => some []
  | d :: r => match toPy S d, toPys S r with
    | some x, some xs => some (x :: xs)
    | _, _ => none
end
def eqD (S : Sto) (d e : D) : Option Bool := match toPy S (deref S d), toPy S (deref S e) with
  | some x, some y => if SeqAt.shaped x && SeqAt.shaped y then some (PyData.eqv x y) else none
  | _, _ => none
def gEq : Sto → D → D → Option D := fun S d e => (eqD S d e).map .bl
def gNe : Sto → D → D → Option D := fun S d e => (eqD S d e).map fun b => .bl (!b)
def gIs : Sto → D → D → Option D := fun _ d e => match e with
  | .non => (match d with
    | .non => some (.bl true)
    | .ptr _ => some (.bl false)
    | _ => some (.bl false))
  | .bl b => (match d with
    | .bl a => some (.bl (decide (a = b)))
    | _ => none)
  | _ => none
def gIsN : Sto → D → D → Option D := fun S d e => match gIs S d e with
  | some (.bl b) => some (.bl (!b))
  | _ => none

section
variable {X : Cx} {W : WX} {a b c e : Expr} {es rest : List Expr} {ra rb rc : RE} {ba bb : RB} {rs : RA} {pos p : Pos} {wd : World} {K : Fg} {mg : Str → Option Value} {α β : List Addr} {F F1 H H1 : Hp} {S : Sto}
theorem fmatch {x : D} {i : Int} (h : x = .int i) {v : V} (hv : DV wd K mg F α v x) : v = .int i := by subst h; cases hv; rfl
/-- two ints by a rule -/
theorem opg_int {f : Value → Value → Sem Value} {C : Int → Int → Prop} {h : Int → Int → Int} {g : Sto → D → D → Option D} (ho : OpR X f (rI C fun i j => .int (h i j)))
    (hg : ∀ S d e z, g S d e = some z → ∃ i j, d = .int i ∧ e = .int j ∧ C i j ∧ z = .int (h i j)) : OpG X f g := by
  refine ⟨_, ho, fun α F H S x y d e z Q hr hx hy hz q => ?_⟩
  obtain ⟨i, j, rfl, rfl, hc, rfl⟩ := hg S d e z hz
  cases hx; cases hy
  have an : α ++ [] = α := List.append_nil α
  exact ⟨i, j, rfl, rfl, hc, q _ H [] F (by rw [an]; exact hr) Stp.refl (.int _)⟩
theorem opg_cmp {f : Value → Value → Sem Value} {h : Int → Int → Bool} {g : Sto → D → D → Option D} (ho : OpR X f (rI0 fun i j => .bl (h i j)))
    (hg : ∀ S d e z, g S d e = some z → ∃ i j, d = .int i ∧ e = .int j ∧ z = .bl (h i j)) : OpG X f g := by
  refine ⟨_, ho, fun α F H S x y d e z Q hr hx hy hz q => ?_⟩
  obtain ⟨i, j, rfl, rfl, rfl⟩ := hg S d e z hz
  cases hx; cases hy
  have an : α ++ [] = α := List.append_nil α
  exact ⟨i, j, rfl, rfl, q _ H [] F (by rw [an]; exact hr) Stp.refl (.bl _)⟩
theorem g_sub : OpG X (binaryOp .Sub) gSub := by
  refine ⟨_, op_sub, fun α F H S x y d e z Q hr hx hy hz q => ?_⟩
  unfold gSub at hz
  split at hz
  · cases hz; cases hx; cases hy
    have an : α ++ [] = α := List.append_nil α
    exact ⟨_, _, rfl, rfl, q _ H [] F (by rw [an]; exact hr) Stp.refl (.int _)⟩
  · cases hz
theorem mulFits_ok {i j : Int} (h : mulFits i j = true) : IntMulOk i j := by
  unfold mulFits at h
  rw [Bool.or_eq_true, Bool.or_eq_true] at h
  rcases h with h | h | h
  · exact CMulW.ok (show _ < _ from of_decide_eq_true h)
  · have := of_decide_eq_true h
    exact CMul.ok (.inl ⟨by omega, by omega⟩)
  · have := of_decide_eq_true h
    exact CMul.ok (.inr ⟨by omega, by omega⟩)
theorem op_mulX : OpR X (binaryOp .Mult) (rI (fun i j => mulFits i j = true) fun i j => .int (i * j)) := opI fun _ _ _ _ _ _ _ hc q => mul_int q (mulFits_ok hc)
theorem g_mul : OpG X (binaryOp .Mult) gMul := opg_int op_mulX fun S d e z h => by
  unfold gMul at h
  split at h
  · split at h
    · rename_i q
      cases h
      exact ⟨_, _, rfl, rfl, q, rfl⟩
    · cases h
  · cases h
theorem op_fdivA : OpR X (binaryOp .FloorDiv) (rI (fun _ j => j ≠ 0 ∧ j.natAbs.log2 < 9000) fun i j => .int (i.fdiv j)) := opI fun i j _ _ _ _ _ hc q => floordiv_int hc.1 q (.inl (PyProof.noPylong_of_log2 hc.2))
theorem g_div : OpG X (binaryOp .FloorDiv) gDiv := opg_int op_fdivA fun S d e z h => by
  unfold gDiv at h
  split at h
  · split at h
    · rename_i q
      cases h
      exact ⟨_, _, rfl, rfl, q, rfl⟩
    · cases h
  · cases h
theorem g_mod : OpG X (binaryOp .Mod) gMod := opg_int op_modN fun S d e z h => by
  unfold gMod at h
  split at h
  · split at h
    · rename_i q
      cases h
      exact ⟨_, _, rfl, rfl, q, rfl⟩
    · cases h
  · cases h
def CPowW (i j : Int) : Prop := 0 ≤ j ∧ ((j ≤ 1000000 ∧ i.natAbs < 2 ^ 64) ∨ (Builtin.Int.intBits i : Int) * j ≤ 2 ^ 27)
theorem op_powW : OpR X (binaryOp .Pow) (rI CPowW fun i j => .int (i ^ j.toNat)) := opI fun _ _ _ _ _ _ _ hc q => by
  rcases hc with ⟨h0, ⟨h1, h2⟩ | h1⟩
  · exact pow_int_small h0 h1 h2 q
  · exact PyProof.Rows.pow_int h0 h1 q
theorem g_pow : OpG X (binaryOp .Pow) gPow := by
  refine ⟨_, op_powW, fun α F H S x y d e z Q hr hx hy hz q => ?_⟩
  unfold gPow at hz
  split at hz
  · split at hz
    · rename_i hc
      cases hz; cases hx; cases hy
      have an : α ++ [] = α := List.append_nil α
      exact ⟨_, _, rfl, rfl, hc, q _ H [] F (by rw [an]; exact hr) Stp.refl (.int _)⟩
    · cases hz
  · cases hz
theorem g_lt : OpG X (compareOp .Lt) gLt := opg_cmp op_lt fun S d e z h => by
  unfold gLt at h
  split at h
  · cases h; exact ⟨_, _, rfl, rfl, rfl⟩
  · cases h
theorem g_le : OpG X (compareOp .LtE) gLe := opg_cmp op_le fun S d e z h => by
  unfold gLe at h
  split at h
  · cases h; exact ⟨_, _, rfl, rfl, rfl⟩
  · cases h
theorem g_gt : OpG X (compareOp .Gt) gGt := opg_cmp op_gt fun S d e z h => by
  unfold gGt at h
  split at h
  · cases h; exact ⟨_, _, rfl, rfl, rfl⟩
  · cases h
theorem g_ge : OpG X (compareOp .GtE) gGe := opg_cmp op_ge fun S d e z h => by
  unfold gGe at h
  split at h
  · cases h; exact ⟨_, _, rfl, rfl, rfl⟩
  · cases h
theorem u_neg : OkU X (rU fun i => .int (-i)) gNeg := by
  intro α F H S x d z Q hr hx hz q
  unfold gNeg at hz
  split at hz
  · cases hz; cases hx
    have an : α ++ [] = α := List.append_nil α
    exact ⟨_, rfl, q _ H [] F (by rw [an]; exact hr) Stp.refl (.int _)⟩
  · cases hz
theorem pd_neg (ha : PD X W a ra) : PD X W (.UnaryOp .USub a pos) (rUn gNeg ra) := pd_un un_neg u_neg ha
/-! ### ==, != -/
mutual
theorem DV.dp {v : V} : ∀ {d : D} {x : PyData}, DV wd K mg F α v d → toPy S d = some x → Sub F H → Dp K H v x
  | _, _, .non, e, _ => by cases e; exact .non
  | _, _, .bl b, e, _ => by cases e; exact .bl b
  | _, _, .int i, e, _ => by cases e; exact .int i
  | _, _, .str y, e, _ => by cases e; exact .str y
  | _, _, .tup h t, e, s => by
    rename_i ds
    unfold toPy at e
    cases q : toPys S ds with
    | none => rw [q] at e; cases e
    | some ys => rw [q] at e; cases e; exact .tup (s.sqT h.1) (DVs.dp t q s)
  | _, _, .lst h t, e, s => by
    rename_i ds
    unfold toPy at e
    cases q : toPys S ds with
    | none => rw [q] at e; cases e
    | some ys => rw [q] at e; cases e; exact .lst (s.sqL h) (DVs.dp t q s)
  | _, _, .tux _ _, e, _ => by cases e
  | _, _, .ptr _, e, _ => by cases e
  | _, _, .fn _, e, _ => by cases e
  | _, _, .ty _, e, _ => by cases e
theorem DVs.dp {vs : List V} : ∀ {ds : List D} {xs : List PyData}, DVs wd K mg F α vs ds → toPys S ds = some xs → Sub F H → DpAll K H vs xs
  | _, _, .nil, e, _ => by cases e; exact .nil
  | _, _, .cons h t, e, s => by
    rename_i d _ ds
    unfold toPys at e
    cases q1 : toPy S d with
    | none => rw [q1] at e; cases e
    | some x =>
      cases q2 : toPys S ds with
      | none => rw [q1, q2] at e; cases e
      | some xs => rw [q1, q2] at e; cases e; exact .cons (DV.dp h q1 s) (DVs.dp t q2 s)
end
theorem Rel.dp (hr : Rel wd K mg α F H S) {v : V} {d : D} {x : PyData} (h : DV wd K mg F α v d) (e : toPy S (deref S d) = some x) : Dp K H v x := by
  have s := hr.see h
  generalize deref S d = dd at e s
  cases s with
  | «at» h _ => exact h.dp e hr.sub
  | dead => cases e
  | lst q t =>
    rename_i ds
    unfold toPy at e
    cases q2 : toPys S ds with
    | none => rw [q2] at e; cases e
    | some ys => rw [q2] at e; cases e; exact .lst (SqL.of q) (t.dp q2 hr.sub)
  | dct _ _ _ => cases e
  | dcn _ _ => cases e
theorem Rel.eqD (hr : Rel wd K mg α F H S) {v u : V} {d e : D} {k : Bool} (h1 : DV wd K mg F α v d) (h2 : DV wd K mg F α u e) (q : DL.eqD S d e = some k) : ∃ x y, Dp K H v x ∧ Dp K H u y ∧ SeqAt.shaped x = true ∧ SeqAt.shaped y = true ∧ k = PyData.eqv x y := by
  unfold DL.eqD at q
  split at q
  · rename_i x y e1 e2
    split at q
    · rename_i hc
      rw [Bool.and_eq_true] at hc
      cases q
      exact ⟨x, y, hr.dp h1 e1, hr.dp h2 e2, hc.1, hc.2, rfl⟩
    · cases q
  · cases q
theorem g_eq (hu : X.A.units + 64 < cLine) : OpG X (compareOp .Eq) gEq := by
  refine ⟨_, op_eqD hu, fun α F H S x y d e z Q hr hx hy hz q => ?_⟩
  unfold gEq at hz
  cases q1 : DL.eqD S d e with
  | none => rw [q1] at hz; cases hz
  | some k =>
    rw [q1] at hz; cases hz
    obtain ⟨x', y', a1, a2, a3, a4, rfl⟩ := hr.eqD hx hy q1
    have an : α ++ [] = α := List.append_nil α
    exact ⟨x', y', a1, a2, a3, a4, q _ H [] F (by rw [an]; exact hr) Stp.refl (.bl _)⟩
theorem g_ne (hu : X.A.units + 64 < cLine) : OpG X (compareOp .NotEq) gNe := by
  refine ⟨_, op_neD hu, fun α F H S x y d e z Q hr hx hy hz q => ?_⟩
  unfold gNe at hz
  cases q1 : DL.eqD S d e with
  | none => rw [q1] at hz; cases hz
  | some k =>
    rw [q1] at hz; cases hz
    obtain ⟨x', y', a1, a2, a3, a4, rfl⟩ := hr.eqD hx hy q1
    have an : α ++ [] = α := List.append_nil α
    exact ⟨x', y', a1, a2, a3, a4, q _ H [] F (by rw [an]; exact hr) Stp.refl (.bl _)⟩
/-! ### is -/
theorem g_is : OpG X (compareOp .Is) gIs := by
  refine ⟨_, op_isN.or op_isBl, fun α F H S x y d e z Q hr hx hy hz q => ?_⟩
  have an : α ++ [] = α := List.append_nil α
  have fin : ∀ k, z = .bl k → Q (.bl k) H := fun k ek => by subst ek; exact q _ H [] F (by rw [an]; exact hr) Stp.refl (.bl _)
  unfold gIs at hz
  split at hz
  · cases hy
    refine .inl ⟨rfl, fin _ ?_⟩
    cases hx <;> cases hz <;> rfl
  · cases hy
    split at hz
    · cases hx
      cases hz
      exact .inr ⟨_, _, rfl, rfl, fin _ rfl⟩
    · cases hz
  · cases hz
theorem g_isN : OpG X (compareOp .IsNot) gIsN := by
  refine ⟨_, op_notN.or op_notBl, fun α F H S x y d e z Q hr hx hy hz q => ?_⟩
  have an : α ++ [] = α := List.append_nil α
  have fin : ∀ k, z = .bl k → Q (.bl k) H := fun k ek => by subst ek; exact q _ H [] F (by rw [an]; exact hr) Stp.refl (.bl _)
  unfold gIsN at hz
  split at hz
  · rename_i k q1
    cases hz
    unfold gIs at q1
    split at q1
    · cases hy
      refine .inl ⟨rfl, fin _ ?_⟩
      cases hx <;> cases q1 <;> rfl
    · cases hy
      split at q1
      · cases hx
        cases q1
        exact .inr ⟨_, _, rfl, rfl, fin _ rfl⟩
      · cases q1
    · cases q1
  · cases hz
end
end DL

set_option Elab.async false
set_option linter.all false
set_option maxRecDepth 100000
set_option maxHeartbeats 4000000
set_option autoImplicit false
/-! Data layer, eighth part: built-in functions, methods of texts, items, slices. -/
namespace DL
open PySem PySem.Spec PyProof.Rows L2

def tyName (S : Sto) (d : D) : Option String := match deref S d with
  | .non => some "NoneType"
  | .bl _ => some "bool"
  | .int _ => some "int"
  | .str _ => some "str"
  | .tup _ => some "tuple"
  | .lst _ => some "list"
  | .dct _ => some "dict"
  | _ => none
def gIsi : Sto → List D → Option D := fun S ds => match ds with
  | [d, .ty T] => (tyName S d).bind fun t => (kitB t T).map .bl
  | _ => none
def gLen : Sto → List D → Option D := fun S ds => match ds with
  | [d] => (match deref S d with
    | .str y => if y.length ≤ sizeLine then some (.int y.length) else none
    | .tup xs => some (.int xs.length)
    | .lst xs => some (.int xs.length)
    | _ => none)
  | _ => none
def gAbs : Sto → List D → Option D := fun _ ds => match ds with
  | [.int i] => some (.int (if i < 0 then -i else i))
  | _ => none
def gInt : Sto → List D → Option D := fun _ ds => match ds with
  | [.int i] => some (.int i)
  | [.bl k] => some (.int (if k then 1 else 0))
  | [.str a] => (match intText? a with
    | some n => if a.length ≤ 640 then some (.int n) else none
    | none => none)
  | _ => none
def gStr : Sto → List D → Option D := fun _ ds => match ds with
  | [.int i] => if i.natAbs.log2 < 1920 then some (.str (toString i)) else none
  | [.str a] => some (.str a)
  | _ => none
def asBls : List D → Option (List Bool)
  | [] => some []
  | .bl b :: r => (asBls r).map (b :: ·)
  | _ => none
def asInts : List D → Option (List Int)
  | [] => some []
  | .int b :: r => (asInts r).map (b :: ·)
  | _ => none
def asStrs : List D → Option (List Str)
  | [] => some []
  | .str b :: r => (asStrs r).map (b :: ·)
  | _ => none
def gAll : Sto → List D → Option D := fun S ds => match ds with
  | [d] => (match deref S d with
    | .lst xs => (asBls xs).map fun bs => .bl (bs.all id)
    | _ => none)
  | _ => none
def gAny : Sto → List D → Option D := fun S ds => match ds with
  | [d] => (match deref S d with
    | .lst xs => (asBls xs).map fun bs => .bl (bs.any id)
    | _ => none)
  | _ => none
def gSum : Sto → List D → Option D := fun S ds => match ds with
  | [d] => (match deref S d with
    | .lst xs => (asInts xs).map fun bs => .int bs.sum
    | _ => none)
  | _ => none
def toPyR (S : Sto) : D → Option PyData
  | .ptr k => (match S.getD k .non with
    | .dct [] => some (.dict [])
    | _ => toPy S (deref S (.ptr k)))
  | d => toPy S d
def gRepr : Sto → List D → Option D := fun S ds => match ds with
  | [d] => (match toPyR S d with
    | some x => if x.showable && decide (x.depth ≤ 64) && decide (x.shown.length ≤ sizeLine) then some (.str x.shown) else none
    | none => none)
  | _ => none

section
variable {X : Cx} {W : WX} {a b c e : Expr} {es rest : List Expr} {ra rb rc : RE} {ba bb : RB} {rs : RA} {pos p : Pos} {wd : World} {K : Fg} {mg : Str → Option Value} {α β : List Addr} {F F1 H H1 : Hp} {S : Sto}
theorem asBls_eq : ∀ {xs : List D} {bs : List Bool}, asBls xs = some bs → xs = bs.map .bl
  | [], _, h => by cases h; rfl
  | .bl b :: r, _, h => by
    unfold asBls at h
    cases q : asBls r with
    | none => rw [q] at h; cases h
    | some ys => rw [q] at h; cases h; rw [asBls_eq q]; rfl
theorem asInts_eq : ∀ {xs : List D} {bs : List Int}, asInts xs = some bs → xs = bs.map .int
  | [], _, h => by cases h; rfl
  | .int b :: r, _, h => by
    unfold asInts at h
    cases q : asInts r with
    | none => rw [q] at h; cases h
    | some ys => rw [q] at h; cases h; rw [asInts_eq q]; rfl
theorem asStrs_eq : ∀ {xs : List D} {bs : List Str}, asStrs xs = some bs → xs = bs.map .str
  | [], _, h => by cases h; rfl
  | .str b :: r, _, h => by
    unfold asStrs at h
    cases q : asStrs r with
    | none => rw [q] at h; cases h
    | some ys => rw [q] at h; cases h; rw [asStrs_eq q]; rfl
/-- the end of a rule that changes nothing -/
theorem fin_now {v : V} {z : D} {Q : VK} (hr : Rel wd K mg α F H S) (hv : DV wd K mg F α v z) (q : ∀ v H' β F', Rel wd K mg (α ++ β) F' H' S → Stp α F H β F' H' → DV wd K mg F' (α ++ β) v z → Q v H') : Q v H := by
  have an : α ++ [] = α := List.append_nil α
  exact q v H [] F (by rw [an]; exact hr) Stp.refl (by rw [an]; exact hv)
theorem pd_ty {x : Str} {n : String} (hm : X.mg x = none) (hg : Gl X x := by rfl) (hv : bootBuiltins x = some (.type n) := by decide +kernel) (hn : x ≠ "__name__" := by decide) (hd : (x == ("__debug__" : Str)) = false := by decide) : PD X W (.Name x pos) (rC (.ty n)) :=
  pd_c (v := .ty n) (pe_bltn hg hm hv rfl hn hd) fun _ _ => .ty n
theorem Rel.tyX (hr : Rel wd K mg α F H S) {v : V} {d : D} {t : String} (h : DV wd K mg F α v d) (e : tyName S d = some t) : TyX K H v (.type t) := by
  have s := hr.see h
  unfold tyName at e
  generalize deref S d = dd at e s
  cases s with
  | «at» h hp =>
    cases h with
    | non => cases e; exact .base .non
    | bl b => cases e; exact .base (.bl b)
    | int i => cases e; exact .base (.int i)
    | str x => cases e; exact .base (.str x)
    | tup q t =>
      cases e
      rcases hr.sub.sqT q.1 with (q | ⟨o, q⟩) | ⟨o, its, n, q, c, _⟩
      · exact .base (.tup q)
      · exact .fTuple q
      · exact .kTuple q c
    | lst q t =>
      cases e
      rcases hr.sub.sqL q with (q | ⟨o, q⟩) | ⟨o, its, n, q, c, _⟩
      · exact .base (.lst q)
      · exact .base (.frz q)
      · exact .kList q c
    | tux q t => cases e
    | ptr _ => exact absurd rfl (hp _)
    | fn _ => cases e
    | ty _ => cases e
  | dead => cases e
  | lst q t => cases e; exact .base (.lst q)
  | dct q k t =>
    cases e
    rcases q with q | ⟨o, q⟩
    · exact .base (.dK q)
    · exact .fDict q
  | dcn _ _ => cases e
theorem b_isi : BiG X (.builtin "isinstance") gIsi := by
  refine ⟨_, call_isi, fun α F H S xs ds z Q hr hv hz q => ?_⟩
  unfold gIsi at hz
  split at hz
  · rename_i d T
    cases hv with
    | cons h1 h2 =>
      cases h2 with
      | cons h2 h3 =>
        cases h3
        cases h2
        rename_i v
        cases e1 : tyName S d with
        | none => rw [e1] at hz; cases hz
        | some t =>
          rw [e1] at hz
          cases e2 : kitB t T with
          | none => rw [Option.bind_some, e2] at hz; cases hz
          | some k =>
            rw [Option.bind_some, e2] at hz
            cases hz
            exact ⟨v, .ty T, .type t, .type T, k, rfl, .ty T, hr.tyX h1 e1, kit_ty e2, fin_now hr (.bl _) q⟩
  · cases hz
theorem b_len : BiG X (.builtin "len") gLen := by
  refine ⟨_, call_len, fun α F H S xs ds z Q hr hv hz q => ?_⟩
  unfold gLen at hz
  split at hz
  · rename_i d
    cases hv with
    | cons h1 h2 =>
      cases h2
      rename_i v
      split at hz
      · rename_i y e
        split at hz
        · rename_i hl
          cases hz
          have := hr.viewS h1 e
          subst this
          exact ⟨_, y.length, rfl, ⟨hl, rfl⟩, fin_now hr (.int _) q⟩
        · cases hz
      · rename_i ys e
        cases hz
        obtain ⟨a, us, rfl, h3, h4⟩ := hr.viewT h1 e
        exact ⟨_, us.length, rfl, .inr ⟨us, h3, rfl⟩, by rw [h4.length]; exact fin_now hr (.int _) q⟩
      · rename_i ys e
        cases hz
        obtain ⟨a, us, rfl, h3, h4⟩ := hr.viewL h1 e
        exact ⟨_, us.length, rfl, .inl ⟨us, h3, rfl⟩, by rw [h4.length]; exact fin_now hr (.int _) q⟩
      · cases hz
  · cases hz
theorem b_abs : BiG X (.builtin "abs") gAbs := by
  refine ⟨_, call_abs, fun α F H S xs ds z Q hr hv hz q => ?_⟩
  unfold gAbs at hz
  split at hz
  · cases hz
    cases hv with
    | cons h1 h2 => cases h2; cases h1; exact ⟨_, rfl, fin_now hr (.int _) q⟩
  · cases hz
theorem b_int : BiG X (.type "int") gInt := by
  refine ⟨_, call_int1.or call_int_str, fun α F H S xs ds z Q hr hv hz q => ?_⟩
  unfold gInt at hz
  split at hz
  · cases hz
    cases hv with
    | cons h1 h2 => cases h2; cases h1; exact .inl (.inl ⟨_, rfl, fin_now hr (.int _) q⟩)
  · cases hz
    cases hv with
    | cons h1 h2 => cases h2; cases h1; exact .inl (.inr ⟨_, rfl, fin_now hr (.int _) q⟩)
  · cases hv with
    | cons h1 h2 =>
      cases h2; cases h1
      split at hz
      · rename_i n e
        split at hz
        · rename_i hl
          cases hz
          exact .inr ⟨_, n, rfl, e, hl, fin_now hr (.int _) q⟩
        · cases hz
      · cases hz
  · cases hz
theorem b_str : BiG X (.type "str") gStr := by
  refine ⟨_, call_str_int.or SkE.call_str_str, fun α F H S xs ds z Q hr hv hz q => ?_⟩
  unfold gStr at hz
  split at hz
  · split at hz
    · rename_i hl
      cases hz
      cases hv with
      | cons h1 h2 => cases h2; cases h1; exact .inl ⟨_, rfl, hl, fin_now hr (.str _) q⟩
    · cases hz
  · cases hz
    cases hv with
    | cons h1 h2 => cases h2; cases h1; exact .inr ⟨_, rfl, fin_now hr (.str _) q⟩
  · cases hz
theorem b_all (hc : X.calm = true) : BiG X (.builtin "all") gAll := by
  refine ⟨_, cr_all hc, fun α F H S xs ds z Q hr hv hz q => ?_⟩
  unfold gAll at hz
  split at hz
  · rename_i d
    cases hv with
    | cons h1 h2 =>
      cases h2
      split at hz
      · rename_i ys e
        cases e2 : asBls ys with
        | none => rw [e2] at hz; cases hz
        | some bs =>
          rw [e2] at hz; cases hz
          obtain ⟨a, us, rfl, h3, h4⟩ := hr.viewL h1 e
          rw [asBls_eq e2] at h4
          rw [h4.bls] at h3
          exact ⟨a, bs, rfl, h3, fin_now hr (.bl _) q⟩
      · cases hz
  · cases hz
theorem b_any (hc : X.calm = true) : BiG X (.builtin "any") gAny := by
  refine ⟨_, cr_any hc, fun α F H S xs ds z Q hr hv hz q => ?_⟩
  unfold gAny at hz
  split at hz
  · rename_i d
    cases hv with
    | cons h1 h2 =>
      cases h2
      split at hz
      · rename_i ys e
        cases e2 : asBls ys with
        | none => rw [e2] at hz; cases hz
        | some bs =>
          rw [e2] at hz; cases hz
          obtain ⟨a, us, rfl, h3, h4⟩ := hr.viewL h1 e
          rw [asBls_eq e2] at h4
          rw [h4.bls] at h3
          exact ⟨a, bs, rfl, h3, fin_now hr (.bl _) q⟩
      · cases hz
  · cases hz
theorem b_sum (hc : X.calm = true) : BiG X (.builtin "sum") gSum := by
  refine ⟨_, cr_sum hc, fun α F H S xs ds z Q hr hv hz q => ?_⟩
  unfold gSum at hz
  split at hz
  · rename_i d
    cases hv with
    | cons h1 h2 =>
      cases h2
      split at hz
      · rename_i ys e
        cases e2 : asInts ys with
        | none => rw [e2] at hz; cases hz
        | some bs =>
          rw [e2] at hz; cases hz
          obtain ⟨a, us, rfl, h3, h4⟩ := hr.viewL h1 e
          rw [asInts_eq e2] at h4
          rw [h4.ints] at h3
          exact ⟨a, bs, rfl, h3, fin_now hr (.int _) q⟩
      · cases hz
  · cases hz
end
end DL

set_option Elab.async false
set_option linter.all false
set_option maxRecDepth 100000
set_option maxHeartbeats 4000000
set_option autoImplicit false
/-! Data layer, ninth part: repr, methods, texts, items, slices, lists that are made. -/
namespace DL
open PySem PySem.Spec PyProof.Rows L2

section
variable {X : Cx} {W : WX} {a b c e : Expr} {es rest : List Expr} {ra rb rc : RE} {ba bb : RB} {rs : RA} {pos p : Pos} {wd : World} {K : Fg} {mg : Str → Option Value} {α β : List Addr} {F F1 H H1 : Hp} {S : Sto}
theorem op_mulS : OpR X (binaryOp .Mult) (fun x y H Q => ∃ i j, x = .str i ∧ y = .int j ∧ MulOk i j ∧ Q (.str (Txt.mul i j)) H) := by
  intro pins s σ H x y v u Q I rx ry h
  obtain ⟨i, j, rfl, rfl, hk, q⟩ := h
  obtain ⟨t, rfl⟩ := rx
  obtain ⟨t', rfl⟩ := ry
  exact SB.mul hk fun t' k => ⟨.str _, H, I.tok _, ⟨_, rfl⟩, q⟩
instance (x : Str) (n : Int) : Decidable (MulOk x n) := by unfold MulOk; infer_instance
def gMulS : Sto → D → D → Option D := fun _ d e => match d, e with
  | .str x, .int n => if MulOk x n then some (.str (Txt.mul x n)) else none
  | _, _ => none
theorem g_mulS : OpG X (binaryOp .Mult) gMulS := by
  refine ⟨_, op_mulS, fun α F H S x y d e z Q hr hx hy hz q => ?_⟩
  unfold gMulS at hz
  split at hz
  · split at hz
    · rename_i hc
      cases hz; cases hx; cases hy
      exact ⟨_, _, rfl, rfl, hc, fin_now hr (.str _) q⟩
    · cases hz
  · cases hz
theorem g_add : OpG X (binaryOp .Add) gAdd := by
  refine ⟨_, (op_add.or op_add_str).or op_catP, fun α F H S x y d e z Q hr hx hy hz q => ?_⟩
  unfold gAdd at hz
  split at hz
  · rename_i e1 e2
    cases hz
    have := hr.viewI hx e1
    have := hr.viewI hy e2
    subst x; subst y
    exact .inl (.inl ⟨_, _, rfl, rfl, fin_now hr (.int _) q⟩)
  · rename_i e1 e2
    split at hz
    · rename_i hl
      cases hz
      have := hr.viewS hx e1
      have := hr.viewS hy e2
      subst x; subst y
      exact .inl (.inr ⟨_, _, rfl, rfl, hl, fin_now hr (.str _) q⟩)
    · cases hz
  · rename_i xs ys e1 e2
    split at hz
    · rename_i hl
      cases hz
      obtain ⟨a, us, rfl, a1, a2⟩ := hr.viewT hx e1
      obtain ⟨b, ws, rfl, b1, b2⟩ := hr.viewT hy e2
      refine .inr ⟨a, b, us, ws, rfl, rfl, a1, b1, by rw [a2.length, b2.length]; exact hl, fun en => ?_, fun _ en => ?_, fun n1 n2 p hp o ho => ?_⟩
      · subst en
        have en : xs = [] := by cases a2; rfl
        subst en
        have sy := hr.see hy
        rw [e2] at sy
        cases sy with
        | «at» h _ => exact fin_now hr h q
      · subst en
        have en : ys = [] := by cases b2; rfl
        subst en
        rw [List.append_nil] at q
        have sx := hr.see hx
        rw [e1] at sx
        cases sx with
        | «at» h _ => exact fin_now hr h q
      · obtain ⟨c1, c2, c3⟩ := hr.tup (a2.append b2) hp ho
        exact q _ _ _ _ c1 c2 c3
    · cases hz
  · cases hz
mutual
theorem dp_noD {v : V} : ∀ {d : PyData}, Dp K H v d → d.hasDict = false
  | _, .non => by simp [PyData.hasDict]
  | _, .bl _ => by simp [PyData.hasDict]
  | _, .int _ => by simp [PyData.hasDict]
  | _, .str _ => by simp [PyData.hasDict]
  | _, .lst _ t => by rw [PyData.hasDict]; exact dpA_noD t
  | _, .tup _ t => by rw [PyData.hasDict]; exact dpA_noD t
theorem dpA_noD {vs : List V} : ∀ {ds : List PyData}, DpAll K H vs ds → PyData.hasDictAll ds = false
  | _, .nil => by simp [PyData.hasDictAll]
  | _, .cons h t => by rw [PyData.hasDictAll, dp_noD h, dpA_noD t]; rfl
end
/-! ### repr -/
theorem repr_ok (hG : X.A.guards = some []) (hu : X.A.units + 80 < cLine) : CallR X (.builtin "repr") (fun xs H Q => ∃ x d, xs = [x] ∧ (Dp X.K H x d ∨ (d = .dict [] ∧ ∃ a, x = .ref a ∧ H a = some (.dK []))) ∧ d.showable = true ∧ d.depth ≤ 64 ∧ d.shown.length ≤ sizeLine ∧ Q (.str d.shown) H) := by
  intro pins s σ H xs us Q I rv h
  obtain ⟨x, d, rfl, hd, h1, h2, h3, q⟩ := h
  obtain ⟨u, rfl, rx⟩ := vals1 rv
  have done : ∀ h' t tk, (∀ b o, s.heap.get? b = some o → h'.get? b = some o) → EP X pins σ Q (.str d.shown t) { s with heap := h', toks := tk } := fun h' t tk k => ⟨.str _, H, I.kept (t' := tk) k, ⟨_, rfl⟩, q⟩
  rcases hd with hd | ⟨rfl, a, rfl, ha⟩
  · obtain ⟨as, r⟩ := Dp.reads I d x u hd rx
    have noD : d.hasDict = false := dp_noD hd
    cases hd with
    | non => cases rx; exact P.repr_of_none (done s.heap _ _ fun _ _ e => e)
    | bl b => cases rx; exact P.repr_of_bool (done s.heap _ _ fun _ _ e => e)
    | int i => obtain ⟨t, rfl⟩ := rx; exact P.repr_of_int (of_decide_eq_true (by simpa [PyData.showable] using h1)) (done s.heap _ _ fun _ _ e => e)
    | str z => obtain ⟨t, rfl⟩ := rx; exact P.repr_of_str (by simpa [PyData.shown] using done s.heap s.toks (s.toks + 1) fun _ _ e => e) (by simpa [PyData.shown] using h3)
    | lst _ _ => cases rx; exact repr_of_reads' r h1 (fun z => by rw [noD] at z; cases z) hG (by omega) (fun _ _ e => e) (fun h' u tk k => done h' u tk k) h3
    | tup _ _ => cases rx; exact repr_of_reads' r h1 (fun z => by rw [noD] at z; cases z) hG (by omega) (fun _ _ e => e) (fun h' u tk k => done h' u tk k) h3
  · cases rx
    obtain ⟨_, hs, vs, hk, o, es, ep, e1, e2, e3, hdd⟩ := I.hok a _ ha
    cases hk
    have e5 : es.toList = [] := by
      have h5 := hdd.2.1
      cases h6 : es.toList with
      | nil => rfl
      | cons _ _ => rw [h6] at h5; cases h5
    have r : Reads s.heap (.ref a) (.dict []) (a :: [] ++ []) := .dict e1 e2.1 e3 (by rw [e5]; exact .nil) (by rw [e5]; exact .nil)
    exact repr_of_reads' r h1 (fun _ => by simpa using (beq_eq_false_iff_ne.mp hs).symm) hG (by omega) (fun _ _ e => e) (fun h' u tk k => done h' u tk k) h3
theorem b_repr (hG : X.A.guards = some []) (hu : X.A.units + 80 < cLine) : BiG X (.builtin "repr") gRepr := by
  refine ⟨_, repr_ok hG hu, fun α F H S xs ds z Q hr hv hz q => ?_⟩
  unfold gRepr at hz
  split at hz
  · rename_i d
    cases hv with
    | cons h1 h2 =>
      cases h2
      split at hz
      · rename_i x e
        split at hz
        · rename_i hc
          rw [Bool.and_eq_true, Bool.and_eq_true] at hc
          cases hz
          refine ⟨_, x, rfl, ?_, hc.1.1, of_decide_eq_true hc.1.2, of_decide_eq_true hc.2, fin_now hr (.str _) q⟩
          cases d with
          | ptr k =>
            unfold toPyR at e
            dsimp only at e
            split at e
            · rename_i e6
              cases e
              cases h1 with
              | ptr ha =>
                obtain ⟨_, o, _⟩ := hr.owned ha
                rw [e6] at o
                obtain ⟨ws, a1, a2, a3⟩ := o
                have : ws = [] := by have := a2.length; simpa using this
                subst this
                exact .inr ⟨rfl, _, rfl, a1⟩
            · exact .inl (hr.dp h1 e)
          | _ => exact .inl (hr.dp h1 e)
        · cases hz
      · cases hz
  · cases hz
end
end DL

set_option Elab.async false
set_option linter.all false
set_option maxRecDepth 100000
set_option maxHeartbeats 4000000
set_option autoImplicit false
/-! Data layer, tenth part: methods, lists that are made, items, slices. -/
namespace DL
open PySem PySem.Spec PyProof.Rows L2

/-! ### what they come to -/
/-- the type by whose method it goes -/
def isTy (T : String) (S : Sto) (d : D) : Bool := match deref S d with
  | .str _ => T == "str"
  | .lst _ => T == "list"
  | .dct _ => T == "dict"
  | _ => false
/-- a method: the receiver's type is looked at ahead of the arguments -/
def rMeth (T : String) (g : Sto → D → List D → Option (D × Sto)) (a : RE) (as : RA) : RE := fun δ S => (a δ S).bind fun x S1 => if isTy T S1 x then (as δ S1).bind fun ys S2 => match g S2 x ys with
  | some (z, S3) => .ok z S3
  | none => .stuck else .stuck
def pureM (g : Sto → D → List D → Option D) : Sto → D → List D → Option (D × Sto) := fun S d ds => (g S d ds).map fun z => (z, S)
def gStarts : Sto → D → List D → Option D := fun _ d ds => match d, ds with
  | .str a, [.str b] => some (.bl (Txt.startswith a b))
  | _, _ => none
def gIndexS : Sto → D → List D → Option D := fun _ d ds => match d, ds with
  | .str a, [.str b] => (match Builtin.Str.occurrences a b 0 a.length 1 with
    | k :: _ => some (.int (k : Nat))
    | [] => none)
  | _, _ => none
def gJoin : Sto → D → List D → Option D := fun S d ds => match d, ds with
  | .str a, [e] => (match deref S e with
    | .lst xs => (match asStrs xs with
      | some ys => if (ys.map (·.length)).sum + ys.length * a.length ≤ 16777216 then some (.str (Txt.join a ys)) else none
      | none => none)
    | _ => none)
  | _, _ => none
def mAppend : Sto → D → List D → Option (D × Sto) := fun S d ds => match d, ds with
  | .ptr k, [y] => (match S[k]? with
    | some (.lst xs) => if xs.length < sizeLine then some (.non, S.set k (.lst (xs ++ [y]))) else none
    | _ => none)
  | _, _ => none
def mInsert : Sto → D → List D → Option (D × Sto) := fun S d ds => match d, ds with
  | .ptr k, [.int i, y] => (match S[k]? with
    | some (.lst xs) => if xs.length < sizeLine ∧ 0 ≤ i ∧ i < 2 ^ 63 then some (.non, S.set k (.lst (xs.take i.toNat ++ [y] ++ xs.drop i.toNat))) else none
    | _ => none)
  | _, _ => none
def mPop : Sto → D → List D → Option (D × Sto) := fun S d ds => match d, ds with
  | .ptr k, [] => (match S[k]? with
    | some (.lst xs) => (match xs[xs.length - 1]? with
      | some y => some (y, S.set k (.lst xs.dropLast))
      | none => none)
    | _ => none)
  | _, _ => none
/-- an item of a list, a tuple, a text -/
def gIx : Sto → D → D → Option D := fun S d e => match deref S d, e with
  | .lst xs, .int i => atI xs i
  | .tup xs, .int i => atI xs i
  | .str z, .int i => if z.length ≤ sizeLine then (atI z.cps.toList i).map fun c => .str ⟨#[c]⟩ else none
  | _, _ => none
/-- a part: from, to -/
def cutD {A : Type} (xs : List A) (lo hi : Option Int) : List A := (xs.drop (HT.sIx xs.length 0 lo)).take (HT.sIx xs.length xs.length hi - HT.sIx xs.length 0 lo)
abbrev RO := Sl → Sto → Res (Option Int)
def oNone : RO := fun _ S => .ok none S
def oSome (a : RE) : RO := fun δ S => (a δ S).bind fun x S1 => match x with
  | .int i => .ok (some i) S1
  | _ => .stuck
def rCut (a : RE) (l h : RO) : RE := fun δ S => (a δ S).bind fun x S1 => (l δ S1).bind fun i S2 => (h δ S2).bind fun j S3 => match deref S3 x with
  | .lst xs => .ok (.lst (cutD xs i j)) S3
  | .tup xs => .ok (.tup (cutD xs i j)) S3
  | .str z => if z.length ≤ sizeLine then .ok (.str (cutS z i j)) S3 else .stuck
  | _ => .stuck

section
variable {X : Cx} {W : WX} {a b c e : Expr} {es rest : List Expr} {ra rb rc : RE} {ba bb : RB} {rs : RA} {pos p : Pos} {wd : World} {K : Fg} {mg : Str → Option Value} {α β : List Addr} {F F1 H H1 : Hp} {S : Sto}
theorem isTy_ok (hr : Rel wd K mg α F H S) {v : V} {d : D} {T : String} (h : DV wd K mg F α v d) (e : isTy T S d = true) (hT : T ≠ "dict") : tyV K T v H := by
  have s := hr.see h
  unfold isTy at e
  generalize deref S d = dd at e s
  cases s with
  | «at» h hp =>
    cases h with
    | str x => exact beq_iff_eq.mp e
    | lst q t => exact .inl ⟨beq_iff_eq.mp e, _, hr.sub.sqL q⟩
    | ptr _ => exact absurd rfl (hp _)
    | _ => cases e
  | dead => cases e
  | lst q t => exact .inl ⟨beq_iff_eq.mp e, _, SqL.of q⟩
  | dct q k t => exact absurd (beq_iff_eq.mp e) hT
  | dcn q t => cases e
def OkM (X : Cx) (r : V → List V → Hp → VK → Prop) (g : Sto → D → List D → Option (D × Sto)) : Prop := ∀ α F H S (x : V) (xs : List V) (d : D) (ds : List D) (z : D) (S' : Sto) (Q : VK), Rel X.w X.K X.mg α F H S → DV X.w X.K X.mg F α x d → DVs X.w X.K X.mg F α xs ds → g S d ds = some (z, S') →
  (∀ v H' β F', Rel X.w X.K X.mg (α ++ β) F' H' S' → Stp α F H β F' H' → DV X.w X.K X.mg F' (α ++ β) v z → Q v H') → r x xs H Q
structure MdG (X : Cx) (id : String) (g : Sto → D → List D → Option (D × Sto)) : Prop where
  ex : ∃ r, MtR X id r ∧ OkM X r g
theorem pd_meth {o : Expr} {name : Str} {T id : String} {g : Sto → D → List D → Option (D × Sto)} {apos cpos : Pos} {ro : RE} (hm : MdG X id g) (pa : PlainAttrs T) (slot : Slot T name id) (hty : typeOf (.builtin id) = pure (.type "method_descriptor")) (ho : PD X W o ro) (ha : PDs X W (e :: es) rs) (hT : T ≠ "dict" := by decide)
    (hbase : attributeBase o name X.env (eval o X.env) = eval o X.env := by rfl)
    (hfew : ((backTo cpos (starEach (e :: es) X.env)).all (fun x => !x.1) && (backToKw cpos (keywordEach [] X.env)).all (fun x => x.1.isSome) && decide ((e :: es).length + ([] : List Keyword).length + (if ([] : List Keyword).isEmpty then 0 else 1) < 30)) = true := by rfl)
    (hline : (apos.endLine == cpos.line) = true := by rfl) (hs : starEach (e :: es) X.env = (false, eval e X.env) :: starEach es X.env := by rfl) (hplain : (backTo cpos (starEach es X.env)).any (·.1) = false := by rfl) :
    PD X W (.Call (.Attribute o name apos) (e :: es) [] cpos) (rMeth T g ro rs) := by
  obtain ⟨r, h1, h2⟩ := hm.ex
  obtain ⟨to, po, so⟩ := ho.ex
  obtain ⟨t, pt, st⟩ := ha.ex
  refine ⟨_, pe_bm pa slot hty h1 po pt hbase hfew hline hs hplain, fun α F σ H δ S Q hr hs h => ?_⟩
  refine so α F σ H δ S _ hr hs (wp.bind h fun d S1 _ x H1 β F1 r1 q1 v1 h1 => ?_)
  split at h1
  · rename_i ety
    refine ⟨isTy_ok r1 v1 ety hT, ?_⟩
    refine st (α ++ β) F1 σ H1 δ S1 _ r1 (hs.mono q1.sub) (wp.bind h1 fun ds S2 _ xs H2 γ F2 r2 q2 v2 h3 => ?_)
    cases eg : g S2 d ds with
    | none => rw [eg] at h3; exact h3.elim
    | some zs =>
      obtain ⟨z, S3⟩ := zs
      rw [eg] at h3
      exact h2 _ F2 H2 S2 x xs d ds z S3 Q r2 (v1.mono q2.sub) v2 eg fun v H' ε F' r3 s3 v3 => h3 v H' ε F' r3 s3 v3
  · exact h1.elim
theorem pd_meth0 {o : Expr} {name : Str} {T id : String} {g : Sto → D → List D → Option (D × Sto)} {apos cpos : Pos} {ro : RE} (hm : MdG X id g) (pa : PlainAttrs T) (slot : Slot T name id) (hty : typeOf (.builtin id) = pure (.type "method_descriptor")) (ho : PD X W o ro) (hT : T ≠ "dict" := by decide)
    (hbase : attributeBase o name X.env (eval o X.env) = eval o X.env := by rfl) (hline : (apos.endLine == cpos.line) = true := by rfl) : PD X W (.Call (.Attribute o name apos) [] [] cpos) (rMeth T g ro rNil) := by
  obtain ⟨r, h1, h2⟩ := hm.ex
  obtain ⟨to, po, so⟩ := ho.ex
  refine ⟨_, pe_bm0 pa slot hty h1 po hbase hline, fun α F σ H δ S Q hr hs h => ?_⟩
  refine so α F σ H δ S _ hr hs (wp.bind h fun d S1 _ x H1 β F1 r1 q1 v1 h1 => ?_)
  split at h1
  · rename_i ety
    refine ⟨isTy_ok r1 v1 ety hT, ?_⟩
    have h3 : wp X.w X.K X.mg (α ++ β) F1 H1 (relD X.w X.K X.mg) (match g S1 d [] with | some (z, S3) => .ok z S3 | none => .stuck) Q _ := h1
    cases eg : g S1 d [] with
    | none => rw [eg] at h3; exact h3.elim
    | some zs =>
      obtain ⟨z, S3⟩ := zs
      rw [eg] at h3
      exact h2 _ F1 H1 S1 x [] d [] z S3 Q r1 v1 .nil eg fun v H' ε F' r3 s3 v3 => h3 v H' ε F' r3 s3 v3
  · exact h1.elim
theorem mdg_pure {id : String} {r : V → List V → Hp → VK → Prop} {g : Sto → D → List D → Option D} (h : MtR X id r) (hk : ∀ α F H S (x : V) (xs : List V) (d : D) (ds : List D) (z : D) (Q : VK), Rel X.w X.K X.mg α F H S → DV X.w X.K X.mg F α x d → DVs X.w X.K X.mg F α xs ds → g S d ds = some z →
    (∀ v H' β F', Rel X.w X.K X.mg (α ++ β) F' H' S → Stp α F H β F' H' → DV X.w X.K X.mg F' (α ++ β) v z → Q v H') → r x xs H Q) : MdG X id (pureM g) := by
  refine ⟨r, h, fun α F H S x xs d ds z S' Q hr hx hv hz q => ?_⟩
  unfold pureM at hz
  cases e : g S d ds with
  | none => rw [e] at hz; cases hz
  | some y => rw [e] at hz; cases hz; exact hk α F H S x xs d ds z Q hr hx hv e q
theorem m_starts : MdG X "str.startswith" (pureM gStarts) := mdg_pure mt_startswith fun α F H S x xs d ds z Q hr hx hv hz q => by
  unfold gStarts at hz
  split at hz
  · cases hz; cases hx
    cases hv with
    | cons h1 h2 => cases h2; cases h1; exact ⟨_, _, rfl, rfl, fin_now hr (.bl _) q⟩
  · cases hz
theorem mt_indexF : MtR X "str.index" (fun x xs H Q => ∃ a b k r, x = .str a ∧ xs = [.str b] ∧ Builtin.Str.occurrences a b 0 a.length 1 = k :: r ∧ Q (.int (k : Nat)) H) := by
  intro pins s σ H x xs v us Q I rx rv h
  obtain ⟨a, b, k, r, rfl, rfl, e, q⟩ := h
  obtain ⟨t, rfl⟩ := rx
  obtain ⟨u, rfl, ru⟩ := vals1 rv
  obtain ⟨t', rfl⟩ := ru
  exact PySem.SC.index e ⟨.int (k : Nat), H, I.tok _, ⟨_, rfl⟩, q⟩
theorem m_indexS : MdG X "str.index" (pureM gIndexS) := mdg_pure mt_indexF fun α F H S x xs d ds z Q hr hx hv hz q => by
  unfold gIndexS at hz
  split at hz
  · split at hz
    · rename_i k r e
      cases hz; cases hx
      cases hv with
      | cons h1 h2 => cases h2; cases h1; exact ⟨_, _, k, r, rfl, rfl, e, fin_now hr (.int _) q⟩
    · cases hz
  · cases hz
theorem m_join : MdG X "str.join" (pureM gJoin) := mdg_pure mt_join fun α F H S x xs d ds z Q hr hx hv hz q => by
  unfold gJoin at hz
  split at hz
  · rename_i a e
    split at hz
    · rename_i ys e1
      split at hz
      · rename_i zs e2
        split at hz
        · rename_i hl
          cases hz; cases hx
          cases hv with
          | cons h1 h2 =>
            cases h2
            obtain ⟨l, us, rfl, a1, a2⟩ := hr.viewL h1 e1
            rw [asStrs_eq e2] at a2
            rw [a2.strs] at a1
            exact ⟨_, l, zs, rfl, rfl, .inl a1, hl, fin_now hr (.str _) q⟩
        · cases hz
      · cases hz
    · cases hz
  · cases hz
theorem getD_of {S : Sto} {k : Nat} {d : D} (h : S[k]? = some d) : S.getD k .non = d := by rw [List.getD_eq_getElem?_getD, h]; rfl
theorem m_append : MdG X "list.append" mAppend := by
  refine ⟨rAppend, mt_append, fun α F H S x xs d ds z S' Q hr hx hv hz q => ?_⟩
  unfold mAppend at hz
  split at hz
  · rename_i k y
    split at hz
    · rename_i zs e
      split at hz
      · rename_i hl
        cases hz
        cases hx with
        | ptr ha =>
          obtain ⟨o, _⟩ := hr.own k _ _ ha e
          obtain ⟨us, o1, o2⟩ := o
          cases hv with
          | cons h1 h2 =>
            cases h2
            obtain ⟨a1, a2⟩ := hr.setO (o := .lst (us ++ [_])) (d := .lst (zs ++ [y])) ha e rfl ⟨_, upd_same, o2.append (.cons h1 .nil)⟩
            exact ⟨_, us, _, rfl, rfl, o1, by rw [o2.length]; exact hl, q _ _ _ _ a1 a2 .non⟩
      · cases hz
    · cases hz
  · cases hz
theorem m_insert : MdG X "list.insert" mInsert := by
  refine ⟨_, mt_insert, fun α F H S x xs d ds z S' Q hr hx hv hz q => ?_⟩
  unfold mInsert at hz
  split at hz
  · rename_i k i y
    split at hz
    · rename_i zs e
      split at hz
      · rename_i hl
        cases hz
        cases hx with
        | ptr ha =>
          obtain ⟨o, _⟩ := hr.own k _ _ ha e
          obtain ⟨us, o1, o2⟩ := o
          cases hv with
          | cons h1 h2 =>
            cases h1
            cases h2 with
            | cons h2 h3 =>
              cases h3
              rename_i v
              obtain ⟨a1, a2⟩ := hr.setO (o := .lst (us.take i.toNat ++ [v] ++ us.drop i.toNat)) (d := .lst (zs.take i.toNat ++ [y] ++ zs.drop i.toNat)) ha e rfl ⟨_, upd_same, ((o2.take _).append (.cons h2 .nil)).append (o2.drop _)⟩
              exact ⟨_, us, i, v, rfl, rfl, o1, by rw [o2.length]; exact hl.1, hl.2.1, hl.2.2, q _ _ _ _ a1 a2 .non⟩
      · cases hz
    · cases hz
  · cases hz
theorem DVs.dropLast {vs : List V} {ds : List D} (h : DVs wd K mg F α vs ds) : DVs wd K mg F α vs.dropLast ds.dropLast := by
  rw [List.dropLast_eq_take, List.dropLast_eq_take, h.length]; exact h.take _
theorem m_pop : MdG X "list.pop" mPop := by
  refine ⟨L2.rPop, mt_pop, fun α F H S x xs d ds z S' Q hr hx hv hz q => ?_⟩
  unfold mPop at hz
  split at hz
  · rename_i k
    split at hz
    · rename_i zs e
      split at hz
      · rename_i y ey
        cases hz
        cases hx with
        | ptr ha =>
          obtain ⟨o, _⟩ := hr.own k _ _ ha e
          obtain ⟨us, o1, o2⟩ := o
          cases hv
          obtain ⟨v, e1, e2⟩ := o2.get ey
          obtain ⟨a1, a2⟩ := hr.setO (o := .lst us.dropLast) (d := .lst zs.dropLast) ha e rfl ⟨_, upd_same, o2.dropLast⟩
          exact ⟨_, us, v, rfl, rfl, o1, by rw [o2.length]; exact e1, q _ _ _ _ a1 a2 (e2.mono a2.sub)⟩
      · cases hz
    · cases hz
  · cases hz

/-! ### items -/
theorem atI_DV {xs : List D} {us : List V} {i : Int} {d : D} (h : DVs wd K mg F α us xs) (e : atI xs i = some d) : ∃ v, atI us i = some v ∧ DV wd K mg F α v d := by
  unfold atI at e ⊢
  rw [h.length]
  cases q : ixN xs.length i with
  | none => rw [q] at e; cases e
  | some j => rw [q] at e; exact h.get e
theorem pd_ix (ha : PD X W a ra) (hb : PD X W b rb) (hs : PlainIx b := by intro _ _; rfl) : PD X W (.Subscript a b pos) (rBin gIx ra rb) := by
  obtain ⟨ta, pa, sa⟩ := ha.ex
  obtain ⟨tb, pb, sb⟩ := hb.ex
  refine ⟨_, pe_ix ix_seq pa pb hs, sa.bin sb fun α F H S x y d e z Q hr hx hy hz q => ?_⟩
  unfold gIx at hz
  split at hz
  · rename_i xs i e1
    cases hy
    obtain ⟨l, us, rfl, a1, a2⟩ := hr.viewL hx e1
    obtain ⟨v, e3, e4⟩ := atI_DV a2 hz
    exact .inl ⟨l, us, i, v, rfl, rfl, a1, e3, fin_now hr e4 q⟩
  · rename_i xs i e1
    cases hy
    obtain ⟨l, us, rfl, a1, a2⟩ := hr.viewT hx e1
    obtain ⟨v, e3, e4⟩ := atI_DV a2 hz
    exact .inr (.inl ⟨l, us, i, v, rfl, rfl, a1, e3, fin_now hr e4 q⟩)
  · rename_i zz i e1
    split at hz
    · rename_i hl
      cases hy
      have := hr.viewS hx e1
      subst this
      cases e3 : atI zz.cps.toList i with
      | none => rw [e3] at hz; cases hz
      | some c => rw [e3] at hz; cases hz; exact .inr (.inr ⟨zz, i, c, rfl, rfl, hl, e3, fin_now hr (.str _) q⟩)
    · cases hz
  · cases hz
end
end DL

set_option Elab.async false
set_option linter.all false
set_option maxRecDepth 100000
set_option maxHeartbeats 4000000
set_option autoImplicit false
/-! Data layer, eleventh part: slices, what is walked, targets, lists that are made, dicts. -/
namespace DL
open PySem PySem.Spec PyProof.Rows L2

def gIn1 : Sto → D → D → Option D := fun S d e => match d, deref S e with
  | .str x, .str z => if x.length = 1 then some (.bl (decide (x.cps.getD 0 0 ∈ z.cps.toList))) else none
  | _, _ => none
def gNotIn1 : Sto → D → D → Option D := fun S d e => match gIn1 S d e with
  | some (.bl b) => some (.bl (!b))
  | _ => none
def flatD : D → Option V
  | .non => some .non
  | .bl b => some (.bl b)
  | .int i => some (.int i)
  | .str x => some (.str x)
  | _ => none
def flatDs : List D → Option (List V)
  | [] => some []
  | d :: r => match flatD d, flatDs r with
    | some v, some vs => some (v :: vs)
    | _, _ => none
/-- in a list or tuple of flat things -/
def gInQ : Sto → D → D → Option D := fun S d e => match flatD d, deref S e with
  | some x, .lst ys => (flatDs ys).map fun vs => .bl (inV x vs)
  | some x, .tup ys => (flatDs ys).map fun vs => .bl (inV x vs)
  | _, _ => none
def gNotInQ : Sto → D → D → Option D := fun S d e => match gInQ S d e with
  | some (.bl b) => some (.bl (!b))
  | _ => none
def rSeq (a : RE) : RA := fun δ S => (a δ S).bind fun x S1 => match x with
  | .lst ds => .ok ds S1
  | .tup ds => .ok ds S1
  | .str z => .ok (z.cps.toList.map fun c => .str ⟨#[c]⟩) S1
  | _ => .stuck
def rangeD (lo hi : Int) : List D := (List.range (hi - lo).toNat).map fun (i : Nat) => .int (lo + i)
def rRange (a : RA) : RA := fun δ S => (a δ S).bind fun xs S1 => match xs with
  | [.int j] => if -(2 ^ 62) ≤ j ∧ j < 2 ^ 62 then .ok (rangeD 0 j) S1 else .stuck
  | [.int i, .int j] => if -(2 ^ 62) ≤ i ∧ i < 2 ^ 62 ∧ -(2 ^ 62) ≤ j ∧ j < 2 ^ 62 then .ok (rangeD i j) S1 else .stuck
  | _ => .stuck
def enumD : Nat → List D → List D
  | _, [] => []
  | n, d :: r => .tux [.int n, d] :: enumD (n + 1) r
def rEnum (a : RA) : RA := fun δ S => (a δ S).bind fun xs S1 => match xs with
  | [.lst ds] => .ok (enumD 0 ds) S1
  | _ => .stuck
def zipD : List D → List D → List D
  | a :: as, b :: bs => .tux [a, b] :: zipD as bs
  | _, _ => []
def rZip (a : RA) : RA := fun δ S => (a δ S).bind fun xs S1 => match xs with
  | [.lst ds, .lst es] => .ok (zipD ds es) S1
  | _ => .stuck
/-- a target of names, from a list -/
def gUnl (u : List D → Sl → Sto → Res Sl) : RG := fun d δ S => match deref S d with
  | .lst ds => u ds δ S
  | _ => .stuck
/-- a, b = x, y -/
def sPar (i j : Nat) (a : RA) : RS := fun δ S => (a δ S).out δ fun xs S1 => match xs with
  | [x, y] => if i < δ.length ∧ j < δ.length then .nx ((δ.set i (some x)).set j (some y)) S1 else .stuck
  | _ => .stuck

section
variable {X : Cx} {W : WX} {a b c e tg : Expr} {es rest : List Expr} {ra rb rc : RE} {ba bb : RB} {rs : RA} {pos p : Pos} {wd : World} {K : Fg} {mg : Str → Option Value} {α β : List Addr} {F F1 H H1 : Hp} {S : Sto}
/-! ### slices -/
def SndO (wd : World) (K : Fg) (mg : Str → Option Value) (W : WX) (t : TO) (r : RO) : Prop := ∀ α F σ H δ S (Q : Option Int → Hp → Prop), Rel wd K mg α F H S → Slots wd K mg F α σ δ → wp wd K mg α F H (fun _ _ (b a : Option Int) => b = a) (r δ S) Q (fun c d H' => W c d σ H') → t σ H Q
structure POd (X : Cx) (W : WX) (e : Option Expr) (r : RO) : Prop where
  ex : ∃ t, PO X e t ∧ SndO X.w X.K X.mg W t r
theorem pod_none : POd X W none oNone := ⟨_, po_none, fun α F σ H δ S Q hr hs h => h.now hr rfl⟩
theorem pod_some (ha : PD X W a ra) : POd X W (some a) (oSome ra) := by
  obtain ⟨t, p1, s1⟩ := ha.ex
  refine ⟨_, po_some p1, fun α F σ H δ S Q hr hs h => ?_⟩
  refine s1 α F σ H δ S _ hr hs (wp.bind h fun d S1 _ x H1 β F1 r1 q1 v1 h1 => ?_)
  cases d with
  | int i => cases v1; exact ⟨i, rfl, h1.now r1 rfl⟩
  | _ => exact h1.elim
theorem cut_DVs {xs : List D} {us : List V} (lo hi : Option Int) (h : DVs wd K mg F α us xs) : DVs wd K mg F α (cutV us lo hi) (cutD xs lo hi) := by
  unfold cutV cutD
  rw [h.length]
  exact (h.drop _).take _
theorem pd_cut {lo hi : Option Expr} {p2 : Pos} {ol oh : RO} (ha : PD X W a ra) (hl : POd X W lo ol) (hh : POd X W hi oh) : PD X W (.Subscript a (.Slice lo hi none p2) pos) (rCut ra ol oh) := by
  obtain ⟨ta, pa, sa⟩ := ha.ex
  obtain ⟨tl, pl, sl⟩ := hl.ex
  obtain ⟨th, ph, sh⟩ := hh.ex
  refine ⟨_, pe_slice ((sl_list.or sl_tupP).or sl_str) pa pl ph, fun α F σ H δ S Q hr hs h => ?_⟩
  refine sa α F σ H δ S _ hr hs (wp.bind h fun d S1 _ x H1 β F1 r1 q1 v1 h1 => ?_)
  refine sl (α ++ β) F1 σ H1 δ S1 _ r1 (hs.mono q1.sub) (wp.bind h1 fun i S2 _ i' H2 γ F2 r2 q2 v2 h2 => ?_)
  have v2 : i' = i := v2
  subst v2
  refine sh (α ++ β ++ γ) F2 σ H2 δ S2 _ r2 ((hs.mono q1.sub).mono q2.sub) (wp.bind h2 fun j S3 _ j' H3 ε F3 r3 q3 v3 h3 => ?_)
  have v3 : j' = j := v3
  subst v3
  have vx := (v1.mono (β := γ) q2.sub).mono (β := ε) q3.sub
  split at h3
  · rename_i xs e1
    obtain ⟨l, us, rfl, a1, a2⟩ := r3.viewL vx e1
    refine .inl (.inl ⟨l, us, rfl, a1, fun p hp => ?_⟩)
    obtain ⟨c1, c2, c3⟩ := r3.lst (cut_DVs _ _ a2) hp
    exact h3 _ _ _ _ c1 c2 c3
  · rename_i xs e1
    obtain ⟨l, us, rfl, a1, a2⟩ := r3.viewT vx e1
    refine .inl (.inr ⟨l, us, rfl, a1, fun hw => ?_, fun _ p hp o ho => ?_⟩)
    · have ew : cutD xs i' j' = xs := by
        unfold cutD
        rw [a2.length] at hw
        rw [hw.1, hw.2, List.drop_zero, Nat.sub_zero, List.take_length]
      rw [ew] at h3
      have sx := r3.see vx
      rw [e1] at sx
      cases sx with
      | «at» h _ => exact h3.now r3 h
    · obtain ⟨c1, c2, c3⟩ := r3.tup (cut_DVs _ _ a2) hp ho
      exact h3 _ _ _ _ c1 c2 c3
  · rename_i zz e1
    split at h3
    · rename_i hl
      have := r3.viewS vx e1
      subst this
      exact .inr ⟨zz, rfl, hl, h3.now r3 (.str _)⟩
    · exact h3.elim
  · exact h3.elim
/-! ### in -/
theorem len1_eq {x : Str} (h : x.length = 1) : x = ⟨#[x.cps.getD 0 0]⟩ := by
  obtain ⟨⟨l⟩⟩ := x
  match l, h with
  | [c], _ => rfl
theorem g_in1 : OpG X (compareOp .In) gIn1 := by
  refine ⟨_, op_in_sign, fun α F H S x y d e z Q hr hx hy hz q => ?_⟩
  unfold gIn1 at hz
  split at hz
  · rename_i x zz e1
    split at hz
    · rename_i hl
      cases hz; cases hx
      have := hr.viewS hy e1
      subst this
      exact ⟨_, zz, by rw [← len1_eq hl], rfl, fin_now hr (.bl _) q⟩
    · cases hz
  · cases hz
theorem g_notIn1 : OpG X (compareOp .NotIn) gNotIn1 := by
  refine ⟨_, op_notIn_sign, fun α F H S x y d e z Q hr hx hy hz q => ?_⟩
  unfold gNotIn1 at hz
  split at hz
  · rename_i k e0
    cases hz
    unfold gIn1 at e0
    split at e0
    · rename_i x zz e1
      split at e0
      · rename_i hl
        cases e0; cases hx
        have := hr.viewS hy e1
        subst this
        exact ⟨_, zz, by rw [← len1_eq hl], rfl, fin_now hr (.bl _) q⟩
      · cases e0
    · cases e0
  · cases hz
theorem flatD_eq {d : D} {v u : V} (h : flatD d = some v) (hv : DV wd K mg F α u d) : u = v ∧ flatV v = true := by
  cases hv <;> cases h <;> exact ⟨rfl, rfl⟩
theorem flatDs_eq : ∀ {ds : List D} {vs us : List V}, flatDs ds = some vs → DVs wd K mg F α us ds → us = vs ∧ vs.all flatV = true
  | [], _, _, h, hv => by cases h; cases hv; exact ⟨rfl, rfl⟩
  | d :: r, _, _, h, hv => by
    unfold flatDs at h
    split at h
    · rename_i e1 e2
      cases h
      cases hv with
      | cons h1 h2 =>
        obtain ⟨a1, a2⟩ := flatD_eq e1 h1
        obtain ⟨b1, b2⟩ := flatDs_eq e2 h2
        subst a1; subst b1
        exact ⟨rfl, by rw [List.all_cons, a2, b2]; rfl⟩
    · cases h
theorem inQ_ok {S : Sto} {d e : D} {k : Bool} {x y : V} (hr : Rel wd K mg α F H S) (hx : DV wd K mg F α x d) (hy : DV wd K mg F α y e) (h : gInQ S d e = some (.bl k)) : ∃ p xs, y = .ref p ∧ (SqL K H p xs ∨ SqT K H p xs) ∧ flatV x = true ∧ xs.all flatV = true ∧ k = inV x xs := by
  unfold gInQ at h
  split at h
  · rename_i v ys e1 e2
    cases e3 : flatDs ys with
    | none => rw [e3] at h; cases h
    | some vs =>
      rw [e3] at h; cases h
      obtain ⟨a1, a2⟩ := flatD_eq e1 hx
      obtain ⟨l, us, rfl, b1, b2⟩ := hr.viewL hy e2
      obtain ⟨c1, c2⟩ := flatDs_eq e3 b2
      subst a1; subst c1
      exact ⟨l, us, rfl, .inl b1, a2, c2, rfl⟩
  · rename_i v ys e1 e2
    cases e3 : flatDs ys with
    | none => rw [e3] at h; cases h
    | some vs =>
      rw [e3] at h; cases h
      obtain ⟨a1, a2⟩ := flatD_eq e1 hx
      obtain ⟨l, us, rfl, b1, b2⟩ := hr.viewT hy e2
      obtain ⟨c1, c2⟩ := flatDs_eq e3 b2
      subst a1; subst c1
      exact ⟨l, us, rfl, .inr b1, a2, c2, rfl⟩
  · cases h
theorem inQ_bl {S : Sto} {d e z : D} (h : gInQ S d e = some z) : ∃ k, z = .bl k := by
  unfold gInQ at h
  split at h
  · rename_i v ys _ _
    cases e3 : flatDs ys with
    | none => rw [e3] at h; cases h
    | some vs => rw [e3] at h; cases h; exact ⟨_, rfl⟩
  · rename_i v ys _ _
    cases e3 : flatDs ys with
    | none => rw [e3] at h; cases h
    | some vs => rw [e3] at h; cases h; exact ⟨_, rfl⟩
  · cases h
theorem g_inQ : OpG X (compareOp .In) gInQ := by
  refine ⟨_, op_in_seq, fun α F H S x y d e z Q hr hx hy hz q => ?_⟩
  obtain ⟨k, rfl⟩ := inQ_bl hz
  obtain ⟨l, us, rfl, a1, a2, a3, rfl⟩ := inQ_ok hr hx hy hz
  exact ⟨l, us, rfl, a1, a2, a3, fin_now hr (.bl _) q⟩
theorem g_notInQ : OpG X (compareOp .NotIn) gNotInQ := by
  refine ⟨_, op_notIn_seq, fun α F H S x y d e z Q hr hx hy hz q => ?_⟩
  unfold gNotInQ at hz
  split at hz
  · rename_i k e0
    cases hz
    obtain ⟨l, us, rfl, a1, a2, a3, rfl⟩ := inQ_ok hr hx hy e0
    exact ⟨l, us, rfl, a1, a2, a3, fin_now hr (.bl _) q⟩
  · cases hz

/-! ### what is walked -/
theorem pi_or {wi wi' : TI} (h : PI X tg e wi) (h' : PI X tg e wi') : PI X tg e (fun σ H R => wi σ H R ∨ wi' σ H R) :=
  ⟨fun pins s σ H R I q => q.elim (h.run pins s σ H R I) (h'.run pins s σ H R I)⟩
theorem it_list {l : Addr} {us : List V} {ds : List D} (h : SqL K F l us) (hv : DVs wd K mg F α us ds) : ItOk wd K mg F α (Itl K l) ds where
  go := fun F' H' i a b hi => by
    obtain ⟨v, e1, _⟩ := hv.get (List.getElem?_eq_getElem hi)
    exact ⟨us, v, (a.trans b).sqL h, e1⟩
  stop := fun F' H' a b => ⟨us, (a.trans b).sqL h, by rw [hv.length]; exact Nat.le_refl _⟩
  yld := fun F' H' H2 i x d a b hd ⟨e1, e2⟩ => by
    refine .inl ⟨e1, ?_⟩
    have e3 := e2 us ((a.trans b).sqL h)
    obtain ⟨v, e4, e5⟩ := hv.get hd
    rw [e3] at e4; cases e4
    have := e5.mono (β := []) a
    rw [List.append_nil] at this; exact this
theorem it_tup {l : Addr} {us : List V} {ds : List D} (h : SqT K F l us) (hv : DVs wd K mg F α us ds) : ItOk wd K mg F α (Itt K l) ds where
  go := fun F' H' i a b hi => by
    obtain ⟨v, e1, _⟩ := hv.get (List.getElem?_eq_getElem hi)
    exact ⟨us, v, (a.trans b).sqT h, e1⟩
  stop := fun F' H' a b => ⟨us, (a.trans b).sqT h, by rw [hv.length]; exact Nat.le_refl _⟩
  yld := fun F' H' H2 i x d a b hd ⟨e1, e2⟩ => by
    refine .inl ⟨e1, ?_⟩
    have e3 := e2 us ((a.trans b).sqT h)
    obtain ⟨v, e4, e5⟩ := hv.get hd
    rw [e3] at e4; cases e4
    have := e5.mono (β := []) a
    rw [List.append_nil] at this; exact this
theorem it_str (z : Str) : ItOk wd K mg F α (Its z) (z.cps.toList.map fun c => .str ⟨#[c]⟩) where
  go := fun F' H' i a b hi => by show i < z.cps.size; simpa using hi
  stop := fun F' H' a b => by show z.cps.size ≤ _; simp
  yld := fun F' H' H2 i x d a b hd ⟨e1, c, e2, e3⟩ => by
    subst e3
    refine .inl ⟨e1, ?_⟩
    rw [List.getElem?_map, Array.getElem?_toList, e2] at hd
    cases hd
    exact .str _
theorem it_range (lo hi : Int) : ItOk wd K mg F α (Itr lo (hi - lo).toNat) (rangeD lo hi) where
  go := fun F' H' i a b h => by show i < (hi - lo).toNat; simpa [rangeD] using h
  stop := fun F' H' a b => by show _ ≤ (rangeD lo hi).length; simp [rangeD]
  yld := fun F' H' H2 i x d a b hd ⟨e1, e2⟩ => by
    subst e2
    refine .inl ⟨e1, ?_⟩
    unfold rangeD at hd
    rw [List.getElem?_map] at hd
    cases q : (List.range (hi - lo).toNat)[i]? with
    | none => rw [q] at hd; cases hd
    | some j =>
      rw [q] at hd; cases hd
      have : j = i := by
        obtain ⟨_, e⟩ := List.getElem?_eq_some_iff.mp q
        simpa using e.symm
      subst this
      exact .int _
theorem pid_seq (ha : PD X W e ra) : PId X W tg e (rSeq ra) := by
  obtain ⟨t, p1, s1⟩ := ha.ex
  refine ⟨_, pi_or (pi_or (pi_list p1) (pi_tup p1)) (pi_str p1), fun α F σ H δ S Q hr hs h => ?_⟩
  unfold rSeq at h
  cases q : ra δ S with
  | err c fs S1 =>
    rw [q] at h
    refine .inl (.inl (s1 α F σ H δ S _ hr hs ?_))
    rw [q]; exact h
  | stuck => rw [q] at h; exact h.elim
  | ok d S1 =>
    rw [q] at h
    cases d with
    | lst ds =>
      refine .inl (.inl (s1 α F σ H δ S _ hr hs ?_))
      rw [q]
      intro v H' β F' r1 st v1
      cases v1 with
      | lst h1 h2 => exact ⟨_, rfl, ⟨_, r1.sub.sqL h1⟩, h _ H' β F' r1 st (it_list h1 h2)⟩
    | tup ds =>
      refine .inl (.inr (s1 α F σ H δ S _ hr hs ?_))
      rw [q]
      intro v H' β F' r1 st v1
      cases v1 with
      | tup h1 h2 => exact ⟨_, rfl, ⟨_, r1.sub.sqT h1.1⟩, h _ H' β F' r1 st (it_tup h1.1 h2)⟩
    | str z =>
      refine .inr (s1 α F σ H δ S _ hr hs ?_)
      rw [q]
      intro v H' β F' r1 st v1
      cases v1
      exact ⟨z, rfl, h _ H' β F' r1 st (it_str z)⟩
    | _ => exact (show False from h).elim
theorem pid_range1 (hm : X.mg "range" = none) (ha : PDs X W [a] rs) (hg : Gl X "range" := by rfl) (hs : starEach [a] X.env = [(false, eval a X.env)] := by rfl) : PId X W tg (.Call (.Name "range" p) [a] [] pos) (rRange rs) := by
  obtain ⟨t, p1, s1⟩ := ha.ex
  refine ⟨_, pi_range1 hg hm p1 hs, fun α F σ H δ S Q hr hs h => ?_⟩
  refine s1 α F σ H δ S _ hr hs (wp.bind h fun ds S1 e1 xs H1 β F1 r1 q1 v1 h1 => ?_)
  have hl := ha.len _ _ _ _ e1
  match ds, hl with
  | [d], _ =>
    cases v1 with
    | cons v1 vn =>
      cases vn
      cases d with
      | int j =>
        cases v1
        dsimp only at h1
        split at h1
        · rename_i hc
          refine ⟨j, rfl, hc.1, hc.2, ?_⟩
          have := it_range (wd := X.w) (K := X.K) (mg := X.mg) (F := F1) (α := α ++ β) 0 j
          rw [Int.sub_zero] at this
          exact h1.now r1 this
        · exact h1.elim
      | _ => exact h1.elim
theorem pid_range2 (hm : X.mg "range" = none) (ha : PDs X W [a, b] rs) (hg : Gl X "range" := by rfl) (hs : starEach [a, b] X.env = [(false, eval a X.env), (false, eval b X.env)] := by rfl) (hs2 : starEach [b] X.env = [(false, eval b X.env)] := by rfl) : PId X W tg (.Call (.Name "range" p) [a, b] [] pos) (rRange rs) := by
  obtain ⟨t, p1, s1⟩ := ha.ex
  refine ⟨_, pi_range2 hg hm p1 hs hs2, fun α F σ H δ S Q hr hs h => ?_⟩
  refine s1 α F σ H δ S _ hr hs (wp.bind h fun ds S1 e1 xs H1 β F1 r1 q1 v1 h1 => ?_)
  have hl := ha.len _ _ _ _ e1
  match ds, hl with
  | [d, d'], _ =>
    cases v1 with
    | cons v1 vn =>
      cases vn with
      | cons v2 vn =>
        cases vn
        cases d with
        | int i =>
          cases d' with
          | int j =>
            cases v1; cases v2
            dsimp only at h1
            split at h1
            · rename_i hc
              exact ⟨i, j, rfl, hc, h1.now r1 (it_range i j)⟩
            · exact h1.elim
          | _ => exact h1.elim
        | _ => exact h1.elim
theorem enumD_get : ∀ {ds : List D} {n i : Nat} {d : D}, (enumD n ds)[i]? = some d → ∃ e, ds[i]? = some e ∧ d = .tux [.int ((n + i : Nat) : Int), e]
  | [], _, _, _, h => by simp [enumD] at h
  | e :: r, n, 0, d, h => by simp [enumD] at h; exact ⟨e, rfl, by rw [← h]; rfl⟩
  | e :: r, n, i + 1, d, h => by
    obtain ⟨e', h1, h2⟩ := enumD_get (ds := r) (n := n + 1) (i := i) (d := d) (by simpa [enumD] using h)
    exact ⟨e', by simpa using h1, by rw [h2]; congr 4; omega⟩
theorem enumD_len : ∀ (n : Nat) (ds : List D), (enumD n ds).length = ds.length
  | _, [] => rfl
  | n, _ :: r => by rw [enumD, List.length_cons, List.length_cons, enumD_len]
theorem it_enum {l : Addr} {us : List V} {ds : List D} (h : SqL K F l us) (hv : DVs wd K mg F α us ds) : ItOk wd K mg F α (Ite K l) (enumD 0 ds) where
  go := fun F' H' i a b hi => by
    rw [enumD_len] at hi
    obtain ⟨v, e1, _⟩ := hv.get (List.getElem?_eq_getElem hi)
    exact ⟨us, v, (a.trans b).sqL h, e1⟩
  stop := fun F' H' a b => ⟨us, (a.trans b).sqL h, by rw [hv.length, enumD_len]; exact Nat.le_refl _⟩
  yld := fun F' H' H2 i x d a b hd ⟨T, y, e1, e2, e3, e4⟩ => by
    have e5 := e4 us ((a.trans b).sqL h)
    obtain ⟨e, e6, rfl⟩ := enumD_get hd
    obtain ⟨v, e7, e8⟩ := hv.get e6
    rw [e5] at e7; cases e7
    subst e1
    have nF : F' T = none := by
      cases z : F' T with
      | none => rfl
      | some u => rw [b _ _ z] at e2; cases e2
    refine .inr ⟨T, _, e2, e3, .tux (SqT.of upd_same) (.cons ?_ (.cons ?_ .nil))⟩
    · rw [Nat.zero_add]; exact .int _
    · have := e8.mono (β := []) (a.trans (Sub.new (o := .tup [.int (i : Nat), y]) nF))
      rw [List.append_nil] at this; exact this
theorem pid_enum {elts : List Expr} {kk : Nat} {tpos : Pos} (hm : X.mg "enumerate" = none) (ha : PDs X W [e] rs) (hg : Gl X "enumerate" := by rfl) (hs : starEach [e] X.env = [(false, eval e X.env)] := by rfl) : PId X W (.Tuple elts kk tpos) (.Call (.Name "enumerate" p) [e] [] pos) (rEnum rs) := by
  obtain ⟨t, p1, s1⟩ := ha.ex
  refine ⟨_, pi_enum hg hm p1 hs, fun α F σ H δ S Q hr hs h => ?_⟩
  refine s1 α F σ H δ S _ hr hs (wp.bind h fun ds S1 e1 xs H1 β F1 r1 q1 v1 h1 => ?_)
  have hl := ha.len _ _ _ _ e1
  match ds, hl with
  | [d], _ =>
    cases v1 with
    | cons v1 vn =>
      cases vn
      cases d with
      | lst ys =>
        cases v1 with
        | lst a1 a2 => exact ⟨_, _, rfl, r1.sub.sqL a1, h1.now r1 (it_enum a1 a2)⟩
      | _ => exact h1.elim
theorem zipD_get : ∀ {xs ys : List D} {i : Nat} {d : D}, (zipD xs ys)[i]? = some d → ∃ x y, xs[i]? = some x ∧ ys[i]? = some y ∧ d = .tux [x, y]
  | a :: as, b :: bs, 0, d, h => by simp [zipD] at h; exact ⟨a, b, rfl, rfl, h.symm⟩
  | a :: as, b :: bs, i + 1, d, h => by
    obtain ⟨x, y, h1, h2, h3⟩ := zipD_get (xs := as) (ys := bs) (i := i) (d := d) (by simpa [zipD] using h)
    exact ⟨x, y, by simpa using h1, by simpa using h2, h3⟩
  | [], _, _, _, h => by simp [zipD] at h
  | _ :: _, [], _, _, h => by simp [zipD] at h
theorem zipD_len : ∀ xs ys : List D, (zipD xs ys).length = min xs.length ys.length
  | a :: as, b :: bs => by rw [zipD, List.length_cons, zipD_len, List.length_cons, List.length_cons]; omega
  | [], _ => by simp [zipD]
  | _ :: _, [] => by simp [zipD]
theorem it_zip {l m : Addr} {us ws : List V} {ds es : List D} (h : SqL K F l us) (hv : DVs wd K mg F α us ds) (g : SqL K F m ws) (gv : DVs wd K mg F α ws es) : ItOk wd K mg F α (Itz K l m) (zipD ds es) where
  go := fun F' H' i a b hi => by
    rw [zipD_len] at hi
    obtain ⟨v, e1, _⟩ := hv.get (List.getElem?_eq_getElem (by omega : i < ds.length))
    obtain ⟨u, e2, _⟩ := gv.get (List.getElem?_eq_getElem (by omega : i < es.length))
    exact ⟨us, ws, v, u, (a.trans b).sqL h, (a.trans b).sqL g, e1, e2⟩
  stop := fun F' H' a b => ⟨us, ws, (a.trans b).sqL h, (a.trans b).sqL g, by rw [hv.length, gv.length, zipD_len]; omega⟩
  yld := fun F' H' H2 i x d a b hd ⟨T, y, y2, e1, e2, e3, e4, e5⟩ => by
    have f1 := e4 us ((a.trans b).sqL h)
    have f2 := e5 ws ((a.trans b).sqL g)
    obtain ⟨p, q, e6, e7, rfl⟩ := zipD_get hd
    obtain ⟨v, e8, e9⟩ := hv.get e6
    rw [f1] at e8; cases e8
    obtain ⟨v2, e10, e11⟩ := gv.get e7
    rw [f2] at e10; cases e10
    subst e1
    have nF : F' T = none := by
      cases z : F' T with
      | none => rfl
      | some u => rw [b _ _ z] at e2; cases e2
    have sb := a.trans (Sub.new (o := .tup [y, y2]) nF)
    refine .inr ⟨T, _, e2, e3, .tux (SqT.of upd_same) (.cons ?_ (.cons ?_ .nil))⟩
    · have := e9.mono (β := []) sb
      rw [List.append_nil] at this; exact this
    · have := e11.mono (β := []) sb
      rw [List.append_nil] at this; exact this
theorem pid_zip {elts : List Expr} {kk : Nat} {tpos : Pos} (hm : X.mg "zip" = none) (ha : PDs X W [a, b] rs) (hg : Gl X "zip" := by rfl) (hs : starEach [a, b] X.env = (false, eval a X.env) :: starEach [b] X.env := by rfl) (hpl : (backTo pos (starEach [b] X.env)).any (·.1) = false := by rfl) : PId X W (.Tuple elts kk tpos) (.Call (.Name "zip" p) [a, b] [] pos) (rZip rs) := by
  obtain ⟨t, p1, s1⟩ := ha.ex
  refine ⟨_, pi_zip hg hm p1 hs hpl, fun α F σ H δ S Q hr hs h => ?_⟩
  refine s1 α F σ H δ S _ hr hs (wp.bind h fun ds S1 e1 xs H1 β F1 r1 q1 v1 h1 => ?_)
  have hl := ha.len _ _ _ _ e1
  match ds, hl with
  | [d, d'], _ =>
    cases v1 with
    | cons v1 vn =>
      cases vn with
      | cons v2 vn =>
        cases vn
        cases d with
        | lst ys =>
          cases d' with
          | lst zs =>
            cases v1 with
            | lst a1 a2 => cases v2 with
              | lst b1 b2 => exact ⟨_, _, _, _, rfl, r1.sub.sqL a1, r1.sub.sqL b1, h1.now r1 (it_zip a1 a2 b1 b2)⟩
          | _ => exact h1.elim
        | _ => exact h1.elim
/-! ### targets from a list, two names at once -/
theorem pgn_unl {k : Nat} {u : List D → Sl → Sto → Res Sl} (hc : X.calm = true) (h : PGds X W es u) (hn : (assignEach es X.env).length = es.length := by rfl) (hst : (assignEach es X.env).findIdx? (·.1) = none := by rfl) : PGn X W (.Tuple es k pos) (gUnl u) := by
  obtain ⟨t, p1, s1⟩ := h.ex
  refine ⟨⟨_, pg_unl hc p1 hn hst, fun α F σ H δ S v d Q hr hs hv h0 => ?_⟩, fun d δ S c fs S' h0 => ?_⟩
  · unfold gUnl at h0
    cases q : deref S d with
    | lst ds =>
      rw [q] at h0
      dsimp only at h0
      obtain ⟨a, xs, e1, e2, e3⟩ := hr.viewL hv q
      have len : ds.length = es.length := by
        cases q2 : u ds δ S with
        | ok δ' S' => exact h.len _ _ _ _ _ q2
        | err c fs S' => exact absurd q2 (h.ne _ _ _ _ _ _)
        | stuck => rw [q2] at h0; exact h0.elim
      exact ⟨a, xs, e1, e2, by rw [e3.length]; exact len, s1 α F σ H δ S xs ds Q hr hs e3 h0⟩
    | _ => rw [q] at h0; exact h0.elim
  · unfold gUnl at h0
    cases q : deref S d with
    | lst ds => rw [q] at h0; exact h.ne _ _ _ _ _ _ h0
    | _ => rw [q] at h0; cases h0
theorem psd_par {i j : Nat} {x y : Str} {px py pt : Pos} {kt k2 : Nat} {pt2 : Pos} (hc : X.calm = true) (hN : X.N.Nodup) (ha : PDs X W [a, b] rs) (hij : i ≠ j := by decide) (hi : X.N[i]? = some x := by rfl) (hj : X.N[j]? = some y := by rfl) (hx : X.env.scope.names.lookup x = some .local := by rfl) (hy : X.env.scope.names.lookup y = some .local := by rfl)
    (hw : swappedStores [.Tuple [.Name x px, .Name y py] kt pt] (.Tuple [a, b] k2 pt2) X.env = pure (some [x, y]) := by rfl) : PSd X W (.Assign [.Tuple [.Name x px, .Name y py] kt pt] (.Tuple [a, b] k2 pt2) pos) (sPar i j rs) := by
  obtain ⟨t, p1, s1⟩ := ha.ex
  refine ⟨_, ps_par hc hN hi hj hij hx hy p1 hw, fun α F σ H δ S E hr hs h => ?_⟩
  refine s1 α F σ H δ S _ hr hs (wpS.out h hs fun ds S1 e1 xs H1 β F1 r1 q1 v1 h1 => ?_)
  have hl := ha.len _ _ _ _ e1
  match ds, hl with
  | [d, d'], _ =>
    cases v1 with
    | cons v1 vn =>
      cases vn with
      | cons v2 vn =>
        cases vn
        dsimp only at h1
        split at h1
        · exact ⟨_, _, rfl, h1.nx r1 (((hs.mono q1.sub).set v1).set v2)⟩
        · exact h1.elim
end
end DL

set_option Elab.async false
set_option linter.all false
set_option maxRecDepth 100000
set_option maxHeartbeats 4000000
set_option autoImplicit false
/-! Data layer, twelfth part: lists that are made, dicts. -/
namespace DL
open PySem PySem.Spec PyProof.Rows L2

def keyEq : D → D → Bool
  | .int i, .int j => i == j
  | .str x, .str y => decide (x = y)
  | _, _ => false
def lookD : List (D × D) → D → Option D
  | [], _ => none
  | (k, v) :: r, q => if keyEq k q then some v else lookD r q
def replD : List (D × D) → D → D → List (D × D)
  | [], _, _ => []
  | (k, v) :: r, q, y => if keyEq k q then (k, y) :: replD r q y else (k, v) :: replD r q y
def putD (kvs : List (D × D)) (q y : D) : List (D × D) := if (lookD kvs q).isSome then replD kvs q y else kvs ++ [(q, y)]
def mergeD (kvs more : List (D × D)) : List (D × D) := more.foldl (fun acc kv => putD acc kv.1 kv.2) kvs
def isKey : D → Bool
  | .int _ => true
  | .str _ => true
  | _ => false
def gGet : Sto → D → D → Option D := fun S d k => if isKey k then (match deref S d with
  | .dct kvs => lookD kvs k
  | _ => none) else none
def gInK : Sto → D → D → Option D := fun S k d => if isKey k then (match deref S d with
  | .dct kvs => some (.bl (lookD kvs k).isSome)
  | _ => none) else none
def gNotInK : Sto → D → D → Option D := fun S k d => if isKey k then (match deref S d with
  | .dct kvs => some (.bl (!(lookD kvs k).isSome))
  | _ => none) else none
/-- pairs of a display, from the left -/
def rPairs : List (RE × RE) → Sl → Sto → Res (List (D × D))
  | [], _, S => .ok [] S
  | (k, v) :: r, δ, S => (k δ S).bind fun x S1 => (v δ S1).bind fun y S2 => (rPairs r δ S2).bind fun ps S3 => .ok ((x, y) :: ps) S3
def rDisp (ps : List (RE × RE)) : RE := fun δ S => (rPairs ps δ S).bind fun kvs S1 => if kvs.all (fun p => isKey p.1) && decide (kvs.length ≤ 15) then .ok (.dct (mergeD [] kvs)) S1 else .stuck
/-- d[k] = v -/
def sPut (d k v : RE) : RS := fun δ S => (v δ S).out δ fun z S1 => (d δ S1).out δ fun x S2 => (k δ S2).out δ fun y S3 => match x with
  | .ptr n => (match S3[n]? with
    | some (.dct kvs) => if isKey y && decide (kvs.length < sizeLine) then .nx δ (S3.set n (.dct (putD kvs y z))) else .stuck
    | _ => .stuck)
  | _ => .stuck
/-- xs[i] = v -/
def sSetL (d k v : RE) : RS := fun δ S => (v δ S).out δ fun z S1 => (d δ S1).out δ fun x S2 => (k δ S2).out δ fun y S3 => match x, y with
  | .ptr n, .int i => (match S3[n]? with
    | some (.lst xs) => (match ixN xs.length i with
      | some j => .nx δ (S3.set n (.lst (xs.set j z)))
      | none => .stuck)
    | _ => .stuck)
  | _, _ => .stuck
def gList : Sto → List D → Option D := fun S ds => match ds with
  | [d] => (match deref S d with
    | .lst xs => some (.lst xs)
    | .tup xs => some (.lst xs)
    | .str z => if z.cps.size ≤ sizeLine then some (.lst (z.cps.toList.map fun c => .str ⟨#[c]⟩)) else none
    | _ => none)
  | _ => none
def gSplit : Sto → D → List D → Option D := fun _ d ds => match d, ds with
  | .str a, [.str b] => if (b.length == 0) = false ∧ a.length + 2 ≤ sizeLine then some (.lst ((Txt.split a b).map .str)) else none
  | _, _ => none
def gTuple : Sto → List D → Option D := fun S ds => match ds with
  | [d] => (match deref S d with
    | .lst xs => some (.tup xs)
    | .tup xs => some (.tup xs)
    | _ => none)
  | _ => none

section
variable {X : Cx} {W : WX} {a b c e tg : Expr} {es rest : List Expr} {ra rb rc : RE} {ba bb : RB} {rs : RA} {pos p : Pos} {wd : World} {K : Fg} {mg : Str → Option Value} {α β : List Addr} {F F1 H H1 : Hp} {S : Sto}
/-! ### made by operators, calls, methods -/
theorem wpF.now {d : D} {Q : VK} {W : XK} {ad : Addr} {o : HO} (h : wpF wd K mg α F H (.ok d S) Q W) (hr : Rel wd K mg α F H S) (hp : H ad = none) (ho : Own wd K mg F α (upd H ad o) ad d) (hd : d.open = true) : Q (.ref ad) (upd H ad o) := h.lay hr hp ho hd
/-- by a list that is laid at a new place -/
def Lays (H : Hp) (xs : List V) (Q : VK) : Prop := ∀ p, H p = none → Q (.ref p) (upd H p (.lst xs))
theorem pf_bin {op : Operator} {g : Sto → D → D → Option D} {r : R2} (ho : OpR X (binaryOp op) r) (hg : ∀ α F H S x y d e z Q, Rel X.w X.K X.mg α F H S → DV X.w X.K X.mg F α x d → DV X.w X.K X.mg F α y e → g S d e = some z → ∃ ds xs, z = .lst ds ∧ DVs X.w X.K X.mg F α xs ds ∧ (Lays H xs Q → r x y H Q)) (ha : PD X W a ra) (hb : PD X W b rb) :
    PF X W (.BinOp a op b pos) (rBin g ra rb) := by
  obtain ⟨ta, pa, sa⟩ := ha.ex
  obtain ⟨tb, pb, sb⟩ := hb.ex
  refine ⟨_, pe_op ho pa pb, fun α F σ H δ S Q hr hs h => ?_⟩
  refine sa α F σ H δ S _ hr hs (wpF.bind h fun d S1 _ x H1 β F1 r1 s1 v1 h1 => ?_)
  refine sb (α ++ β) F1 σ H1 δ S1 _ r1 (hs.mono s1.sub) (wpF.bind h1 fun e S2 _ y H2 γ F2 r2 s2 v2 h2 => ?_)
  cases eg : g S2 d e with
  | none => rw [eg] at h2; exact h2.elim
  | some z =>
    rw [eg] at h2
    obtain ⟨ds, xs, rfl, e1, e2⟩ := hg _ F2 H2 S2 x y d e z Q r2 (v1.mono s2.sub) v2 eg
    exact e2 fun p hp => wpF.lay h2 r2 hp ⟨xs, upd_same, e1⟩ rfl
theorem op_catR : OpR X (binaryOp .Add) (fun x y H Q => ∃ l m xs zs, x = .ref l ∧ y = .ref m ∧ SqL X.K H l xs ∧ SqL X.K H m zs ∧ xs.length + zs.length ≤ sizeLine ∧ Lays H (xs ++ zs) Q) := by
  intro pins s σ H x y v u Q I rx ry h
  obtain ⟨l, m, xs, zs, rfl, rfl, h1, h2, hz, q⟩ := h
  cases rx; cases ry
  obtain ⟨its, r, ⟨o1, n1, g1, c1, _, w1⟩, _⟩ := I.list h1
  obtain ⟨its2, r2, ⟨o2, n2, g2, c2, _, w2⟩, _⟩ := I.list h2
  obtain ⟨k1, dd1, dt1, sl1⟩ := o1
  obtain ⟨k2, dd2, dt2, sl2⟩ := o2
  simp only at c1 c2 w1 w2
  subst c1 c2 w1 w2
  have l1 := r.length
  have l2 := r2.length
  have sz : its.toArray.size + its2.toArray.size ≤ sizeLine := by rw [List.size_toArray, List.size_toArray]; omega
  refine concat_meets ⟨_, g1, rfl⟩ ⟨_, g2, rfl⟩ noFill_list_add seq_list_add PySem.F.slot_list_add PySem.F.entry_list_add (PySem.F.args_list_add_2 _ _) (list_addW l m its.toArray its2.toArray n1 n2 dd1 dd2 sl1 sl2 sz) ⟨g1, g2, ?_⟩
  rw [show its.toArray ++ its2.toArray = (its ++ its2).toArray by simp]
  exact ⟨.ref s.heap.objs.size, _, I.lnew (t' := s.toks) (r.append r2) (by simp; omega), rfl, q _ I.fresh⟩
theorem pf_cat (ha : PD X W a ra) (hb : PD X W b rb) : PF X W (.BinOp a .Add b pos) (rBin gCat ra rb) := pf_bin op_catR (fun α F H S x y d e z Q hr hx hy hz => by
  unfold gCat at hz
  split at hz
  · rename_i xs ys e1 e2
    split at hz
    · rename_i hl
      cases hz
      obtain ⟨l, us, rfl, a1, a2⟩ := hr.viewL hx e1
      obtain ⟨m, ws, rfl, b1, b2⟩ := hr.viewL hy e2
      exact ⟨_, us ++ ws, rfl, a2.append b2, fun q => ⟨l, m, us, ws, rfl, rfl, a1, b1, by rw [a2.length, b2.length]; exact hl, q⟩⟩
    · cases hz
  · cases hz) ha hb
theorem DVs.rep {us : List V} {xs : List D} (h : DVs wd K mg F α us xs) : ∀ n : Nat, DVs wd K mg F α (List.replicate n us).flatten (List.replicate n xs).flatten
  | 0 => .nil
  | n + 1 => by
    rw [List.replicate_succ, List.replicate_succ, List.flatten_cons, List.flatten_cons]
    exact h.append (DVs.rep h n)
/-- a list, laid new, times a number -/
def gRepF : Sto → D → D → Option D := fun _ d e => match d, e with
  | .lst xs, .int k => if -(2 ^ 63) ≤ k ∧ k < 2 ^ 63 ∧ xs.length * k.toNat ≤ sizeLine then some (.lst (List.replicate k.toNat xs).flatten) else none
  | _, _ => none
theorem pf_rep (ha : PF X W a ra) (hb : PD X W b rb) : PF X W (.BinOp a .Mult b pos) (rBin gRepF ra rb) := by
  obtain ⟨ta, pa, sa⟩ := ha.ex
  obtain ⟨tb, pb, sb⟩ := hb.ex
  refine ⟨_, pe_op op_rep pa pb, fun α F σ H δ S Q hr hs h => ?_⟩
  refine sa α F σ H δ S _ hr hs ?_
  unfold rBin at h
  cases q : ra δ S with
  | err c fs S1 => rw [q] at h; exact h
  | stuck => rw [q] at h; exact h
  | ok d S1 =>
    rw [q] at h
    intro ad H1 β F1 r1 s1 hp hα hf ho hd
    have h1 : wpF X.w X.K X.mg (α ++ β) F1 H1 ((rb δ S1).bind fun y S2 => .lift (gRepF S2 d y) S2) Q _ := wpF.step s1 h
    refine sb (α ++ β) F1 σ H1 δ S1 _ r1 (hs.mono s1.sub) (wpF.bind h1 fun e S2 _ y H2 γ F2 r2 s2 v2 h2 => ?_)
    cases eg : gRepF S2 d e with
    | none => rw [eg] at h2; exact h2.elim
    | some z =>
      rw [eg] at h2
      cases d with
      | lst xs =>
        cases e with
        | int k =>
          unfold gRepF at eg
          dsimp only at eg
          split at eg
          · rename_i hl
            cases eg
            cases v2
            obtain ⟨us, o1, o2⟩ := ho
            refine ⟨ad, k, us, rfl, rfl, s2.frame ad _ hα o1, hl.1, hl.2.1, by rw [o2.length]; exact hl.2.2, fun p' hp' => ?_⟩
            exact wpF.lay h2 r2 hp' ⟨_, upd_same, (o2.mono s2.sub).rep _⟩ rfl
          · cases eg
        | _ => cases eg
      | _ => cases eg
/-- by a call of a built-in class, by a method -/
theorem pf_callT {x : Str} {T : String} {g : Sto → List D → Option D} {r : List V → Hp → VK → Prop} (hc : CallR X (.type T) r) (hgk : ∀ α F H S xs ds z Q, Rel X.w X.K X.mg α F H S → DVs X.w X.K X.mg F α xs ds → g S ds = some z → ∃ es us, z = .lst es ∧ DVs X.w X.K X.mg F α us es ∧ (Lays H us Q → r xs H Q))
    (hm : X.mg x = none) (ha : PDs X W (e :: es) rs) (hg : Gl X x := by rfl) (hv : bootBuiltins x = some (.type T) := by decide +kernel) (hn : x ≠ "__name__" := by decide) (hdb : (x == ("__debug__" : Str)) = false := by decide)
    (he : starEach (e :: es) X.env = (false, eval e X.env) :: starEach es X.env := by rfl) (hpl : (backTo pos (starEach es X.env)).any (·.1) = false := by rfl) : PF X W (.Call (.Name x p) (e :: es) [] pos) (rAs g rs) := by
  obtain ⟨t, pt, st⟩ := ha.ex
  refine ⟨_, pe_callTy hc hg hm hv pt hn hdb he hpl, fun α F σ H δ S Q hr hs h => ?_⟩
  refine st α F σ H δ S _ hr hs (wpF.bind h fun ds S1 _ xs H1 β F1 r1 q1 v1 h1 => ?_)
  cases eg : g S1 ds with
  | none => rw [eg] at h1; exact h1.elim
  | some z =>
    rw [eg] at h1
    obtain ⟨es', us, rfl, e1, e2⟩ := hgk _ F1 H1 S1 xs ds z Q r1 v1 eg
    exact e2 fun p hp => wpF.lay h1 r1 hp ⟨us, upd_same, e1⟩ rfl
theorem call_listS (hc : X.calm = true) : CallR X (.type "list") (fun xs H Q => ∃ z, xs = [.str z] ∧ z.cps.size ≤ sizeLine ∧ Lays H (z.cps.toList.map fun c => .str ⟨#[c]⟩) Q) := by
  intro pins s σ H xs us Q I rv h
  obtain ⟨z, rfl, hz, q⟩ := h
  obtain ⟨u, rfl, ru⟩ := vals1 rv
  obtain ⟨t, rfl⟩ := ru
  refine call_list_str (I.ok.hd hc) z t (fun h' tk acc c k e it => ?_) hz
  have hv : Vals (z.cps.toList.map fun c => V.str ⟨#[c]⟩) acc.toList := by
    refine vals_of_at (by simp [it.1]) fun j x u h1 h2 => ?_
    rw [Array.getElem?_toList] at h2
    obtain ⟨c, t', e1, e2⟩ := it.2 j u h2
    rw [List.getElem?_map, Array.getElem?_toList, e1] at h1
    cases h1
    exact ⟨t', e2⟩
  have nw : ObjOk X.prog X.w (upd H s.heap.objs.size (.lst (z.cps.toList.map fun c => V.str ⟨#[c]⟩))) h' s.heap.objs.size (.lst (z.cps.toList.map fun c => V.str ⟨#[c]⟩)) := ⟨by simpa using hz, acc.toList, c, hv, by simpa using e⟩
  exact ⟨.ref s.heap.objs.size, _, I.laid (t' := tk) k (Nat.le_refl _) nw, rfl, q _ I.fresh⟩
theorem pf_list (hc : X.calm = true) (hm : X.mg "list" = none) (ha : PDs X W (e :: es) rs) (hg : Gl X "list" := by rfl) (he : starEach (e :: es) X.env = (false, eval e X.env) :: starEach es X.env := by rfl) (hpl : (backTo pos (starEach es X.env)).any (·.1) = false := by rfl) :
    PF X W (.Call (.Name "list" p) (e :: es) [] pos) (rAs gList rs) := pf_callT (call_list_of.or (call_listS hc)) (fun α F H S xs ds z Q hr hv hz => by
  unfold gList at hz
  split at hz
  · cases hv with
    | cons h1 h2 =>
      cases h2
      split at hz
      · rename_i ys e1
        cases hz
        obtain ⟨l, us, rfl, a1, a2⟩ := hr.viewL h1 e1
        exact ⟨_, us, rfl, a2, fun q => .inl ⟨l, us, rfl, .inl a1, q⟩⟩
      · rename_i ys e1
        cases hz
        obtain ⟨l, us, rfl, a1, a2⟩ := hr.viewT h1 e1
        exact ⟨_, us, rfl, a2, fun q => .inl ⟨l, us, rfl, .inr a1, q⟩⟩
      · rename_i zz e1
        split at hz
        · rename_i hl
          cases hz
          have := hr.viewS h1 e1
          subst this
          refine ⟨_, zz.cps.toList.map fun c => .str ⟨#[c]⟩, rfl, ?_, fun q => .inr ⟨zz, rfl, hl, q⟩⟩
          have := DVs.of_strs (wd := X.w) (K := X.K) (mg := X.mg) (F := F) (α := α) (zz.cps.toList.map fun c => (⟨#[c]⟩ : Str))
          rw [List.map_map, List.map_map] at this
          exact this
        · cases hz
      · cases hz
  · cases hz) hm ha hg (by decide +kernel) (by decide) (by decide) he hpl
theorem b_tuple : BiG X (.type "tuple") gTuple := by
  refine ⟨_, call_tuple_ofP, fun α F H S xs ds z Q hr hv hz q => ?_⟩
  unfold gTuple at hz
  split at hz
  · cases hv with
    | cons h1 h2 =>
      cases h2
      split at hz
      · rename_i ys e1
        cases hz
        obtain ⟨l, us, rfl, a1, a2⟩ := hr.viewL h1 e1
        refine ⟨l, us, rfl, .inl ⟨a1, fun p hp o ho => ?_⟩⟩
        obtain ⟨c1, c2, c3⟩ := hr.tup a2 hp ho
        exact q _ _ _ _ c1 c2 c3
      · rename_i ys e1
        cases hz
        obtain ⟨l, us, rfl, a1, a2⟩ := hr.viewT h1 e1
        have sx := hr.see h1
        rw [e1] at sx
        cases sx with
        | «at» h _ => exact ⟨l, us, rfl, .inr ⟨a1, fin_now hr h q⟩⟩
      · cases hz
  · cases hz
def rSplit (ro rf : RE) : RE := fun δ S => (ro δ S).bind fun x S1 => match x with
  | .str _ => (rf δ S1).bind fun y S2 => .lift (gSplit S2 x [y]) S2
  | _ => .stuck
theorem pf_split {o f : Expr} {ro rf : RE} {apos cpos : Pos} (ho : PD X W o ro) (hf : PD X W f rf) (hs : starEach [f] X.env = [(false, eval f X.env)] := by rfl) (hbase : attributeBase o "split" X.env (eval o X.env) = eval o X.env := by rfl) (hline : (apos.endLine == cpos.line) = true := by rfl) :
    PF X W (.Call (.Attribute o "split" apos) [f] [] cpos) (rSplit ro rf) := by
  obtain ⟨to, po, so⟩ := ho.ex
  obtain ⟨tf, pf, sf⟩ := hf.ex
  refine ⟨_, pe_split po pf hs hbase hline, fun α F σ H δ S Q hr hs h => ?_⟩
  refine so α F σ H δ S _ hr hs (wpF.bind h fun d S1 _ x H1 β F1 r1 q1 v1 h1 => ?_)
  cases d with
  | str z =>
    cases v1
    refine ⟨⟨z, rfl⟩, ?_⟩
    refine sf (α ++ β) F1 σ H1 δ S1 _ r1 (hs.mono q1.sub) (wpF.bind h1 fun e S2 _ y H2 γ F2 r2 q2 v2 h2 => ?_)
    cases eg : gSplit S2 (.str z) [e] with
    | none => rw [eg] at h2; exact h2.elim
    | some zz =>
      rw [eg] at h2
      unfold gSplit at eg
      split at eg
      · rename_i a b q3 q4
        cases q3; cases q4
        split at eg
        · rename_i hl
          cases eg
          cases v2
          exact ⟨_, _, rfl, rfl, hl.1, hl.2, fun p hp => wpF.lay h2 r2 hp ⟨_, upd_same, DVs.of_strs _⟩ rfl⟩
        · cases eg
      · cases eg
  | _ => exact h1.elim
end
end DL

set_option Elab.async false
set_option linter.all false
set_option maxRecDepth 100000
set_option maxHeartbeats 4000000
set_option autoImplicit false
/-! Data layer, thirteenth part: dicts by numbers and texts; an item stored. -/
namespace DL
open PySem PySem.Spec PyProof.Rows L2

def kD : Key → D
  | .inl i => .int i
  | .inr x => .str x
theorem isKey_kD {d : D} (h : isKey d = true) : ∃ k, d = kD k := by
  cases d with
  | int i => exact ⟨.inl i, rfl⟩
  | str x => exact ⟨.inr x, rfl⟩
  | _ => cases h
theorem keyEq_kD (a b : Key) : keyEq (kD a) (kD b) = decide (a = b) := by
  cases a with
  | inl i => cases b with
    | inl j => show (i == j) = _; rw [key_ll]
    | inr y => show false = _; rw [key_lr]
  | inr x => cases b with
    | inl j => show false = _; rw [key_rl]
    | inr y => show decide (x = y) = _; rw [key_rr]
section
variable {X : Cx} {W : WX} {a b c e tg : Expr} {es rest : List Expr} {ra rb rc : RE} {ba bb : RB} {rs : RA} {pos p : Pos} {wd : World} {K : Fg} {mg : Str → Option Value} {α β : List Addr} {F F1 H H1 : Hp} {S : Sto}
theorem kD_DV {k : Key} {v : V} (h : DV wd K mg F α v (kD k)) : v = kV k := by cases k <;> cases h <;> rfl
/-- a dict's pairs -/
inductive KVs (wd : World) (K : Fg) (mg : Str → Option Value) (F : Hp) (α : List Addr) : List (Key × V) → List (D × D) → Prop
  | nil : KVs wd K mg F α [] []
  | cons {k : Key} {v : V} {d : D} {ws : List (Key × V)} {kvs : List (D × D)} : DV wd K mg F α v d → KVs wd K mg F α ws kvs → KVs wd K mg F α ((k, v) :: ws) ((kD k, d) :: kvs)
theorem KVs.of : ∀ {ws : List (Key × V)} {kvs : List (D × D)}, DKs (ws.map (·.1)) (kvs.map (·.1)) → DVs wd K mg F α (ws.map (·.2)) (kvs.map (·.2)) → KVs wd K mg F α ws kvs
  | [], [], _, _ => .nil
  | [], _ :: _, h, _ => by have := h.length; simp at this
  | _ :: _, [], h, _ => by have := h.length; simp at this
  | (k, v) :: ws, (q, d) :: kvs, h, g => by
    have h' : DKs (k :: ws.map (·.1)) (q :: kvs.map (·.1)) := h
    have g' : DVs wd K mg F α (v :: ws.map (·.2)) (d :: kvs.map (·.2)) := g
    cases g' with
    | cons g1 g2 =>
      cases h' with
      | int h2 => exact .cons (k := .inl _) g1 (KVs.of h2 g2)
      | str h2 => exact .cons (k := .inr _) g1 (KVs.of h2 g2)
theorem KVs.keys {ws : List (Key × V)} {kvs : List (D × D)} (h : KVs wd K mg F α ws kvs) : DKs (ws.map (·.1)) (kvs.map (·.1)) := by
  induction h with
  | nil => exact .nil
  | @cons k v d ws kvs _ _ ih => cases k with
    | inl i => exact .int ih
    | inr x => exact .str ih
theorem KVs.vals {ws : List (Key × V)} {kvs : List (D × D)} (h : KVs wd K mg F α ws kvs) : DVs wd K mg F α (ws.map (·.2)) (kvs.map (·.2)) := by
  induction h with
  | nil => exact .nil
  | cons h _ ih => exact .cons h ih
theorem KVs.length {ws : List (Key × V)} {kvs : List (D × D)} (h : KVs wd K mg F α ws kvs) : ws.length = kvs.length := by
  have := h.vals.length
  simpa using this
theorem KVs.look {ws : List (Key × V)} {kvs : List (D × D)} (h : KVs wd K mg F α ws kvs) (k : Key) : (∀ d, lookD kvs (kD k) = some d → ∃ v, valV ws k = some v ∧ DV wd K mg F α v d) ∧ (lookD kvs (kD k) = none → valV ws k = none) := by
  induction h with
  | nil => exact ⟨(fun d e => by cases e), fun _ => rfl⟩
  | @cons j v d ws kvs h _ ih =>
    unfold lookD
    rw [keyEq_kD]
    by_cases q : j = k
    · subst q
      rw [decide_eq_true rfl, if_pos rfl, valV_pos (p := (j, v)) rfl]
      exact ⟨(fun e z => by cases z; exact ⟨v, rfl, h⟩), fun z => by cases z⟩
    · rw [decide_eq_false q, if_neg (by decide), valV_neg (p := (j, v)) q]
      exact ih
theorem KVs.isSome {ws : List (Key × V)} {kvs : List (D × D)} (h : KVs wd K mg F α ws kvs) (k : Key) : (lookD kvs (kD k)).isSome = (valV ws k).isSome := by
  obtain ⟨h1, h2⟩ := h.look k
  cases e : lookD kvs (kD k) with
  | none => rw [h2 e]; rfl
  | some d => obtain ⟨v, e1, _⟩ := h1 d e; rw [e1]; rfl
theorem KVs.append {ws ws' : List (Key × V)} {kvs kvs' : List (D × D)} (h : KVs wd K mg F α ws kvs) (g : KVs wd K mg F α ws' kvs') : KVs wd K mg F α (ws ++ ws') (kvs ++ kvs') := by
  induction h with
  | nil => exact g
  | cons h _ ih => exact .cons h ih
theorem KVs.put {ws : List (Key × V)} {kvs : List (D × D)} (h : KVs wd K mg F α ws kvs) (k : Key) {v : V} {d : D} (hv : DV wd K mg F α v d) : KVs wd K mg F α (putK ws k v) (putD kvs (kD k) d) := by
  unfold putK putD
  rw [h.isSome k, valV_any]
  by_cases q : (valV ws k).isSome = true
  · rw [if_pos q, if_pos q]
    clear q
    induction h with
    | nil => exact .nil
    | @cons j u e ws kvs h1 _ ih =>
      rw [List.map_cons]
      unfold replD
      rw [keyEq_kD]
      by_cases z : j = k
      · subst z
        rw [decide_eq_true rfl, if_pos rfl, if_pos rfl]
        exact .cons hv ih
      · rw [if_neg (show ¬ (j, u).1 = k from z), decide_eq_false z, if_neg (show ¬ false = true by decide)]
        exact .cons h1 ih
  · rw [if_neg q, if_neg q]
    exact h.append (.cons hv .nil)
theorem KVs.merge {more : List (Key × V)} {mk : List (D × D)} (g : KVs wd K mg F α more mk) : ∀ {ws : List (Key × V)} {kvs : List (D × D)}, KVs wd K mg F α ws kvs → KVs wd K mg F α (mergeK ws more) (mergeD kvs mk) := by
  induction g with
  | nil => exact fun h => h
  | cons h1 _ ih => exact fun h => ih (h.put _ h1)
theorem Own.dctK {ad : Addr} {kvs : List (D × D)} : Own wd K mg F α H ad (.dct kvs) ↔ ∃ ws, H ad = some (.dK ws) ∧ KVs wd K mg F α ws kvs :=
  ⟨fun ⟨ws, h1, h2, h3⟩ => ⟨ws, h1, .of h2 h3⟩, fun ⟨ws, h1, h2⟩ => ⟨ws, h1, h2.keys, h2.vals⟩⟩
theorem Rel.viewD (hr : Rel wd K mg α F H S) {v : V} {d : D} {kvs : List (D × D)} (h : DV wd K mg F α v d) (e : deref S d = .dct kvs) : ∃ a ws, v = .ref a ∧ Rd H a (.dK ws) ∧ KVs wd K mg F α ws kvs := by
  have s := hr.see h
  rw [e] at s
  cases s with
  | «at» h _ => cases h
  | dct q k t => exact ⟨_, _, rfl, q, .of k t⟩
theorem pd_get (hu : X.A.units + 1 < cLine) (ha : PD X W a ra) (hb : PD X W b rb) (hs : NoSl b := by intro _ _; rfl) : PD X W (.Subscript a b pos) (rBin gGet ra rb) := by
  obtain ⟨ta, pa, sa⟩ := ha.ex
  obtain ⟨tb, pb, sb⟩ := hb.ex
  refine ⟨_, pe_dget hu pa pb hs, sa.bin sb fun α F H S x y d e z Q hr hx hy hz q => ?_⟩
  unfold gGet at hz
  split at hz
  · rename_i hk
    obtain ⟨k, rfl⟩ := isKey_kD hk
    split at hz
    · rename_i kvs e1
      obtain ⟨l, ws, rfl, a1, a2⟩ := hr.viewD hx e1
      obtain ⟨v, e2, e3⟩ := (a2.look k).1 z hz
      have := kD_DV hy
      subst this
      exact ⟨l, v, rfl, .inl ⟨ws, k, a1, rfl, e2.symm⟩, fin_now hr e3 q⟩
    · cases hz
  · cases hz
theorem inK_ok {x y : V} {d e z : D} (hr : Rel wd K mg α F H S) (hx : DV wd K mg F α x d) (hy : DV wd K mg F α y e) (h : gInK S d e = some z) : ∃ l o, y = .ref l ∧ DGet H l x o ∧ z = .bl o.isSome := by
  unfold gInK at h
  split at h
  · rename_i hk
    obtain ⟨k, rfl⟩ := isKey_kD hk
    split at h
    · rename_i kvs e1
      cases h
      obtain ⟨l, ws, rfl, a1, a2⟩ := hr.viewD hy e1
      have := kD_DV hx
      subst this
      exact ⟨l, valV ws k, rfl, .inl ⟨ws, k, a1, rfl, rfl⟩, by rw [a2.isSome]⟩
    · cases h
  · cases h
theorem pd_inK (hu : X.A.units + 1 < cLine) (ha : PD X W a ra) (hb : PD X W b rb) (hm : behindInMarks .In b = false := by rfl) : PD X W (.Compare a [.In] [b] pos) (rBin gInK ra rb) ∧ PB X W (.Compare a [.In] [b] pos) (bVal (rBin gInK ra rb)) := by
  obtain ⟨ta, pa, sa⟩ := ha.ex
  obtain ⟨tb, pb, sb⟩ := hb.ex
  have s : SndE X.w X.K X.mg W (tDIn ta tb) (rBin gInK ra rb) := sa.bin sb fun α F H S x y d e z Q hr hx hy hz q => by
    obtain ⟨l, o, rfl, h1, rfl⟩ := inK_ok hr hx hy hz
    exact ⟨l, o, rfl, h1, fin_now hr (.bl _) q⟩
  exact ⟨⟨_, pe_cmp (pc_din hu pa pb) hm, s⟩, ⟨_, pt_cmp (pc_din hu pa pb) hm, s.val⟩⟩
theorem pd_notInK (hu : X.A.units + 1 < cLine) (ha : PD X W a ra) (hb : PD X W b rb) (hm : behindInMarks .NotIn b = false := by rfl) : PD X W (.Compare a [.NotIn] [b] pos) (rBin gNotInK ra rb) ∧ PB X W (.Compare a [.NotIn] [b] pos) (bVal (rBin gNotInK ra rb)) := by
  obtain ⟨ta, pa, sa⟩ := ha.ex
  obtain ⟨tb, pb, sb⟩ := hb.ex
  have s : SndE X.w X.K X.mg W (tDNotIn ta tb) (rBin gNotInK ra rb) := sa.bin sb fun α F H S x y d e z Q hr hx hy hz q => by
    have h1 : ∃ w, gInK S d e = some w ∧ ∀ k, w = .bl k → z = .bl (!k) := by
      unfold gNotInK at hz
      unfold gInK
      split at hz
      · rename_i hk
        rw [if_pos hk]
        split at hz
        · rename_i kvs e1
          cases hz
          exact ⟨_, rfl, fun k ek => by cases ek; rfl⟩
        · cases hz
      · cases hz
    obtain ⟨w, h2, h3⟩ := h1
    obtain ⟨l, o, rfl, h4, rfl⟩ := inK_ok hr hx hy h2
    rw [h3 _ rfl] at q
    exact ⟨l, o, rfl, h4, fin_now hr (.bl _) q⟩
  exact ⟨⟨_, pe_cmp (pc_dnotin hu pa pb) hm, s⟩, ⟨_, pt_cmp (pc_dnotin hu pa pb) hm, s.val⟩⟩
theorem psd_put {o i value : Expr} {pos' : Pos} {ro ri rv : RE} (hu : X.A.units + 1 < cLine) (ho : PD X W o ro) (hi : PD X W i ri) (hv : PD X W value rv) (hs : swapsWith value (some (.Subscript o i pos')) pos.line X.env = pure false := by rfl) : PSd X W (.Assign [.Subscript o i pos'] value pos) (sPut ro ri rv) := by
  obtain ⟨to, po, so⟩ := ho.ex
  obtain ⟨ti, pi, si⟩ := hi.ex
  obtain ⟨tv, pv', sv⟩ := hv.ex
  refine ⟨_, ps_dput hu po pi pv' hs, fun α F σ H δ S E hr hs h => ?_⟩
  refine sv α F σ H δ S _ hr hs (wpS.out h hs fun z S1 _ v H1 β F1 r1 q1 v1 h1 => ?_)
  have hs1 := hs.mono (β := β) q1.sub
  refine so (α ++ β) F1 σ H1 δ S1 _ r1 hs1 (wpS.out h1 hs1 fun x S2 _ xv H2 γ F2 r2 q2 v2 h2 => ?_)
  have hs2 := hs1.mono (β := γ) q2.sub
  refine si (α ++ β ++ γ) F2 σ H2 δ S2 _ r2 hs2 (wpS.out h2 hs2 fun y S3 _ yv H3 ε F3 r3 q3 v3 h3 => ?_)
  have hs3 := hs2.mono (β := ε) q3.sub
  split at h3
  · rename_i n
    split at h3
    · rename_i kvs e1
      split at h3
      · rename_i hc
        rw [Bool.and_eq_true] at hc
        obtain ⟨k, rfl⟩ := isKey_kD hc.1
        have v2' := v2.mono (β := ε) q3.sub
        cases v2' with
        | ptr ea =>
          obtain ⟨o1, _⟩ := r3.own _ _ _ ea e1
          obtain ⟨ws, o2, o3⟩ := Own.dctK.mp o1
          have := kD_DV v3
          subst this
          have vz := (v1.mono (β := γ) q2.sub).mono (β := ε) q3.sub
          obtain ⟨a1, a2⟩ := r3.setO (o := .dK (putK ws k v)) (d := .dct (putD kvs (kD k) z)) ea e1 rfl (Own.dctK.mpr ⟨_, upd_same, o3.put k vz⟩)
          refine ⟨_, _, rfl, .inl ⟨ws, k, o2, rfl, by rw [o3.length]; exact of_decide_eq_true hc.2, rfl⟩, ?_⟩
          exact h3 _ _ _ _ a1 a2 (hs3.mono a2.sub)
      · exact h3.elim
    · exact h3.elim
  · exact h3.elim
theorem psd_setL {o i value : Expr} {pos' : Pos} {ro ri rv : RE} (ho : PD X W o ro) (hi : PD X W i ri) (hv : PD X W value rv) (ha : ∀ v, assign (.Subscript o i pos') X.env v = (do let ov ← holding [v] (eval o X.env); let iv ← holding [v, ov] (eval i X.env); standAt pos'; holding [v, ov, iv] (setItem ov iv v); release [v, ov, iv] []) := by intro _; rfl)
    (hsw : swapsWithSole [.Subscript o i pos'] value pos.line X.env = pure false := by rfl) (hw : swappedStores [.Subscript o i pos'] value X.env = pure none := by rfl) (h1 : (assignEach [.Subscript o i pos'] X.env).map (·.2) = [assign (.Subscript o i pos') X.env] := by rfl) : PSd X W (.Assign [.Subscript o i pos'] value pos) (sSetL ro ri rv) := by
  obtain ⟨to, po, so⟩ := ho.ex
  obtain ⟨ti, pi, si⟩ := hi.ex
  obtain ⟨tv, pv', sv⟩ := hv.ex
  refine ⟨_, ps_asg pv' (pg_sub po pi set_list ha) hsw hw h1, fun α F σ H δ S E hr hs h => ?_⟩
  refine sv α F σ H δ S _ hr hs (wpS.out h hs fun z S1 _ v H1 β F1 r1 q1 v1 h1 => ?_)
  have hs1 := hs.mono (β := β) q1.sub
  refine so (α ++ β) F1 σ H1 δ S1 _ r1 hs1 (wpS.out h1 hs1 fun x S2 _ xv H2 γ F2 r2 q2 v2 h2 => ?_)
  have hs2 := hs1.mono (β := γ) q2.sub
  refine si (α ++ β ++ γ) F2 σ H2 δ S2 _ r2 hs2 (wpS.out h2 hs2 fun y S3 _ yv H3 ε F3 r3 q3 v3 h3 => ?_)
  have hs3 := hs2.mono (β := ε) q3.sub
  cases x with
  | ptr n =>
    cases y with
    | int i =>
      dsimp only at h3
      split at h3
      · rename_i xs e1
        split at h3
        · rename_i j e2
          have v2' := v2.mono (β := ε) q3.sub
          cases v2' with
          | ptr ea =>
            obtain ⟨o1, _⟩ := r3.own _ _ _ ea e1
            obtain ⟨us, o2, o3⟩ := o1
            cases v3
            have vz := (v1.mono (β := γ) q2.sub).mono (β := ε) q3.sub
            obtain ⟨a1, a2⟩ := r3.setO (o := .lst (us.set j v)) (d := .lst (xs.set j z)) ea e1 rfl ⟨_, upd_same, o3.set vz j⟩
            refine ⟨_, us, i, j, rfl, rfl, o2, by rw [o3.length]; exact e2, ?_⟩
            exact h3 _ _ _ _ a1 a2 (hs3.mono a2.sub)
        · exact h3.elim
      · exact h3.elim
    | _ => exact h3.elim
  | _ => exact h3.elim

/-! ### displays -/
structure PPd (X : Cx) (W : WX) (pos : Pos) (ks : List (Option Expr)) (vs : List Expr) (ps : List (RE × RE)) : Prop where
  ex : ∃ trs, PPs X pos ks vs trs ∧ ∀ α F σ H δ S (Q : List (V × V) → Hp → Prop), Rel X.w X.K X.mg α F H S → Slots X.w X.K X.mg F α σ δ →
    wp X.w X.K X.mg α F H (fun F α (b : List (V × V)) (a : List (D × D)) => DVs X.w X.K X.mg F α (b.map (·.1)) (a.map (·.1)) ∧ DVs X.w X.K X.mg F α (b.map (·.2)) (a.map (·.2))) (rPairs ps δ S) Q (fun c d H' => W c d σ H') → tPairs trs σ H Q
theorem ppd_nil : PPd X W pos [] [] [] := ⟨[], pps_nil, fun α F σ H δ S Q hr hs h => h.now hr ⟨.nil, .nil⟩⟩
theorem ppd_cons {k v : Expr} {ks : List (Option Expr)} {vs : List Expr} {rk rv : RE} {ps : List (RE × RE)} (hk : PD X W k rk) (hv : PD X W v rv) (h : PPd X W pos ks vs ps) : PPd X W pos (some k :: ks) (v :: vs) ((rk, rv) :: ps) := by
  obtain ⟨tk, p1, s1⟩ := hk.ex
  obtain ⟨tv, p2, s2⟩ := hv.ex
  obtain ⟨trs, p3, s3⟩ := h.ex
  refine ⟨(tk, tv) :: trs, pps_cons p1 p2 p3, fun α F σ H δ S Q hr hs h => ?_⟩
  refine s1 α F σ H δ S _ hr hs (wp.bind h fun x S1 _ xv H1 β F1 r1 q1 v1 h1 => ?_)
  refine s2 (α ++ β) F1 σ H1 δ S1 _ r1 (hs.mono q1.sub) (wp.bind h1 fun y S2 _ yv H2 γ F2 r2 q2 v2 h2 => ?_)
  refine s3 (α ++ β ++ γ) F2 σ H2 δ S2 _ r2 ((hs.mono q1.sub).mono q2.sub) (wp.bind h2 fun zs S3 _ zv H3 ε F3 r3 q3 v3 h3 => ?_)
  exact h3.now r3 ⟨.cons ((v1.mono q2.sub).mono q3.sub) v3.1, .cons (v2.mono q3.sub) v3.2⟩
theorem keysOf : ∀ {kvs : List (D × D)} {ps : List (V × V)}, kvs.all (fun p => isKey p.1) = true → DVs wd K mg F α (ps.map (·.1)) (kvs.map (·.1)) → DVs wd K mg F α (ps.map (·.2)) (kvs.map (·.2)) → ∃ ws : List (Key × V), ps = ws.map (fun kv => (kV kv.1, kv.2)) ∧ KVs wd K mg F α ws kvs
  | [], [], _, _, _ => ⟨[], rfl, .nil⟩
  | [], _ :: _, _, h, _ => by have := h.length; simp at this
  | _ :: _, [], _, h, _ => by have := h.length; simp at this
  | (q, d) :: kvs, (x, y) :: ps, hk, h, g => by
    rw [List.all_cons, Bool.and_eq_true] at hk
    have h' : DVs wd K mg F α (x :: ps.map (·.1)) (q :: kvs.map (·.1)) := h
    have g' : DVs wd K mg F α (y :: ps.map (·.2)) (d :: kvs.map (·.2)) := g
    cases h' with
    | cons h1 h2 =>
      cases g' with
      | cons g1 g2 =>
        obtain ⟨ws, e1, e2⟩ := keysOf hk.2 h2 g2
        obtain ⟨k, ek⟩ := isKey_kD hk.1
        have ek : q = kD k := ek
        subst ek
        have := kD_DV h1
        subst this
        exact ⟨(k, y) :: ws, by rw [e1]; rfl, .cons g1 e2⟩
theorem pf_disp {ks : List (Option Expr)} {vs : List Expr} {ps : List (RE × RE)} (h : PPd X W pos ks vs ps) (hall : ks.all (·.isSome) = true := by rfl) (hl : ks.length = vs.length := by rfl) (h0 : ks ≠ [] := by intro z; cases z) (h15 : ks.length ≤ 15 := by decide) : PF X W (.Dict ks vs pos) (rDisp ps) := by
  obtain ⟨trs, p1, s1⟩ := h.ex
  refine ⟨_, pe_disp p1 hall hl h0 h15, fun α F σ H δ S Q hr hs h => fun ad had => ?_⟩
  have n := hr.notin had
  have f := hr.notF had
  unfold rDisp at h
  have hr' := hr.other (o := .dK []) n f
  refine s1 α F σ (upd H ad (.dK [])) δ S _ hr' hs ?_
  have stt : Stp α F H [] F (upd H ad (.dK [])) := Stp.refl.other had
  cases q : rPairs ps δ S with
  | err c fs S1 =>
    rw [q] at h
    intro cls dd H' β F' r1 st er
    have := stt.trans (β := []) (γ := β) (by rw [List.append_nil]; exact st)
    exact h cls dd H' β F' r1 this er
  | stuck => rw [q] at h; exact h.elim
  | ok kvs S1 =>
    rw [q] at h
    have h1 : wpF X.w X.K X.mg α F H (if kvs.all (fun p => isKey p.1) && decide (kvs.length ≤ 15) then .ok (.dct (mergeD [] kvs)) S1 else .stuck) Q _ := h
    split at h1
    · rename_i hc
      rw [Bool.and_eq_true] at hc
      intro pv H' β F' r1 st ⟨g1, g2⟩
      obtain ⟨ws, e1, e2⟩ := keysOf hc.1 g1 g2
      have st' := stt.trans (β := []) (γ := β) (by rw [List.append_nil]; exact st)
      rw [List.nil_append] at st'
      have hD : H' ad = some (.dK []) := st.frame ad _ n upd_same
      have fD : F' ad = none := st.fnew ad n f (by rw [upd_same]; exact fun z => nomatch z)
      have nD : ad ∉ α ++ β := by
        intro z
        rcases List.mem_append.mp z with z | z
        · exact n z
        · have := st.new ad z
          rw [upd_same] at this; cases this
      refine ⟨hD, ws, e1, by rw [e2.length]; exact of_decide_eq_true hc.2, ?_⟩
      exact h1 ad _ β F' (r1.other nD fD) (st'.other had) had nD fD (Own.dctK.mpr ⟨_, upd_same, KVs.merge e2 .nil⟩) rfl
    · exact h1.elim
theorem pf_dnew : PF X W (.Dict [] [] pos) (rC (.dct [])) := ⟨_, pe_dnewK, fun α F σ H δ S Q hr hs h => fun ad had => wpF.lay h hr had (Own.dctK.mpr ⟨[], upd_same, .nil⟩) rfl⟩
end
end DL

set_option Elab.async false
set_option linter.all false
set_option maxRecDepth 100000
set_option maxHeartbeats 4000000
set_option autoImplicit false
/-! Data layer, last part: defs by their names, the law's end. -/
namespace DL
open PySem PySem.Spec PyProof.Rows L2

/-- the text of a def stands under its name -/
structure Fd (K : Fg) (mg : Str → Option Value) (x : Str) (st : Stmt) (ps : List Str) : Prop where
  ex : ∃ (f : Addr) (fd : FuncData), Fun K x x st f fd ∧ mg x = some (.ref f) ∧ Binds K fd ps []
/-- a def keeps to its mirror -/
structure Fn (P : Program) (w : World) (K : Fg) (mg : Str → Option Value) (base : Heap) (x : Str) (n k : Nat) (m : Mir) : Prop where
  ex : ∃ (f : Addr) (fd : FuncData) (ps : List Str), mg x = some (.ref f) ∧ PySem.W.keepIn K (.ref f) = true ∧ Binds K fd ps [] ∧ FnG P w K mg base k f fd ps (spD w K mg n m)
section
variable {X : Cx} {W : WX} {a b c e tg : Expr} {es rest : List Expr} {ra rb rc : RE} {ba bb : RB} {rs : RA} {pos p : Pos} {wd : World} {K : Fg} {mg : Str → Option Value} {α β : List Addr} {F F1 H H1 : Hp} {S : Sto}
theorem pd_fn {x : Str} {m : Mir} {n k : Nat} (F : Fn X.prog X.w X.K X.mg X.base x n k m) (hr : Room k X.A) (hG : X.A.guards = some []) (tk : Takes X W) (ha : PDs X W (e :: es) rs) (hl : (e :: es).length = n := by rfl) (hg : Gl X x := by rfl) (hdb : (x == ("__debug__" : Str)) = false := by decide)
    (he : starEach (e :: es) X.env = (false, eval e X.env) :: starEach es X.env := by rfl) (hpl : (backTo pos (starEach es X.env)).any (·.1) = false := by rfl) : PD X W (.Call (.Name x p) (e :: es) [] pos) (rCall m rs) := by
  obtain ⟨f, fd, ps, h1, h2, h3, h4⟩ := F.ex
  exact pd_call h4 hr hG h1 h2 h3 tk ha hl hg hdb he hpl
theorem pd_gsE {x y : Str} (hm : ∃ t, X.mg x = some (.str y t)) (hg : Gl X x := by rfl) (hd : (x == ("__debug__" : Str)) = false := by decide) : PD X W (.Name x pos) (rC (.str y)) := let ⟨_, h⟩ := hm; pd_gs h hg hd
theorem pd_giE {x : Str} {i : Int} (hm : ∃ t, X.mg x = some (.int i t)) (hg : Gl X x := by rfl) (hd : (x == ("__debug__" : Str)) = false := by decide) : PD X W (.Name x pos) (rC (.int i)) := let ⟨_, h⟩ := hm; pd_gi h hg hd
theorem fun_of {x qual : Str} {st : Stmt} {f : Addr} {fd : FuncData} (F : FunD K x qual (defArgs st) (defBody st) (defScope st) [] [] f fd) : Fun K x qual st f fd := by
  obtain ⟨oc, od, dV, kV, doc, pm, an, cdv, ct, osl, e, lk, hcd, hD, _⟩ := F.ex
  rcases hD with ⟨_, rfl⟩ | ⟨z, _⟩
  · exact ⟨⟨oc, od, kV, doc, pm, an, cdv, ct, osl, e, lk, hcd⟩, F.kp⟩
  · exact absurd rfl z
/-- what a body's derivation is given -/
structure Env1 (X : Cx) (k : Nat) : Prop where
  room : Room k X.A
  gu : X.A.guards = some []
  hp : PassesOwn (model X.prog X.w) X.A X.env X.xe
theorem Env1.u1 {k : Nat} (h : Env1 X k) : X.A.units + 1 < cLine := by have := h.room.un; omega
theorem Env1.u64 {k : Nat} (h : Env1 X k) : X.A.units + 64 < cLine := by have := h.room.un; omega
theorem Env1.u80 {k : Nat} (h : Env1 X k) : X.A.units + 80 < cLine := by have := h.room.un; omega
theorem fn_mk {P : Program} {w : World} {base : Heap} {x : Str} {st : Stmt} {N ps : List Str} {k : Nat} {r : RS} (Fu : Fd K mg x st ps) (Sc : FnScope N ps (defScope st))
    (hbody : ∀ (f : Addr) (cdv : Value) (A : Around) (outer : List Env) (s : Shared) (H : Hp) (E : XK), Env1 (cxOf (L2.CX P w) P w K mg base N x (defScope st) f cdv A outer s H E) k → Takes (cxOf (L2.CX P w) P w K mg base N x (defScope st) f cdv A outer s H E) (fun cls d _ H => E cls d H) →
      PSds (cxOf (L2.CX P w) P w K mg base N x (defScope st) f cdv A outer s H E) (fun cls d _ H => E cls d H) (defBody st) r) : Fn P w K mg base x ps.length (k + 1) (mDef N.length r) := by
  obtain ⟨f, fd, h1, h2, h3⟩ := Fu.ex
  exact ⟨f, fd, ps, h2, h1.kp, h3, fn_okD h1 Sc fun cdv A outer s H E hr hG => hbody f cdv A outer s H E ⟨hr, hG, passes_of rfl⟩ (takes_of rfl rfl rfl rfl)⟩
end
end DL

set_option Elab.async false
set_option linter.all false
set_option maxRecDepth 100000
set_option maxHeartbeats 4000000
set_option autoImplicit false
/-! Data layer: the law's call. -/
namespace DL
open PySem PySem.Spec PyProof.Rows L2
section
variable {P : Program} {w : World} {K : Fg} {mg mb : Str → Option Value} {k : Nat} {fa a : Addr} {fd : FuncData} {x : Str} {m : Mir} {S1 : Shared} {us : List Value} {ns : List Int} {H : Hp}
theorem bv_len : bootBuiltins "len" = some (.builtin "len") := by decide +kernel
theorem bv_abs : bootBuiltins "abs" = some (.builtin "abs") := by decide +kernel
theorem bv_repr : bootBuiltins "repr" = some (.builtin "repr") := by decide +kernel
theorem bv_isinstance : bootBuiltins "isinstance" = some (.builtin "isinstance") := by decide +kernel
theorem bv_all : bootBuiltins "all" = some (.builtin "all") := by decide +kernel
theorem bv_any : bootBuiltins "any" = some (.builtin "any") := by decide +kernel
theorem bv_sum : bootBuiltins "sum" = some (.builtin "sum") := by decide +kernel
theorem bv_sorted : bootBuiltins "sorted" = some (.builtin "sorted") := by decide +kernel
theorem bv_min : bootBuiltins "min" = some (.builtin "min") := by decide +kernel
theorem bv_max : bootBuiltins "max" = some (.builtin "max") := by decide +kernel
theorem bv_int : bootBuiltins "int" = some (.type "int") := by decide +kernel
theorem bv_str : bootBuiltins "str" = some (.type "str") := by decide +kernel
theorem bv_bool : bootBuiltins "bool" = some (.type "bool") := by decide +kernel
theorem bv_tuple : bootBuiltins "tuple" = some (.type "tuple") := by decide +kernel
theorem bv_list : bootBuiltins "list" = some (.type "list") := by decide +kernel
theorem bv_dict : bootBuiltins "dict" = some (.type "dict") := by decide +kernel
theorem bv_set : bootBuiltins "set" = some (.type "set") := by decide +kernel
theorem bv_float : bootBuiltins "float" = some (.type "float") := by decide +kernel
def natAt (δ : Sl) (i : Nat) : Nat := match δ[i]? with
  | some (some (D.int j)) => j.natAbs
  | _ => 0
/-- what the tracked heap of a law's beginning may hold: the script alone, known to its object -/
structure Lone (K : Fg) (H : Hp) (a : Addr) : Prop where
  at_ : ∀ b, H b ≠ none → b = a
  notK : H a ≠ none → K.lookup a = none
  frz : ∀ b u, H b = some u → ∃ o xs, u = .frz o (.lst xs)
theorem Lone.off (L : Lone K H a) {b : Addr} (h : b ≠ a) : H b = none := by
  cases q : H b with
  | none => rfl
  | some u => exact absurd (L.at_ b (by rw [q]; simp)) h
abbrev lsObj (us : List Value) : Obj := { cls := .type "list", data := .seq us.toArray }
theorem Lone.space (L : Lone K H a) (ha : S1.heap.get? a = some (lsObj us)) {b : Addr} {f : Str → Option Value} (h : S1.heap.Ns b f) : (hidT S1.heap H).Ns b f := by
  obtain ⟨o, es, ep, g, d, r⟩ := h
  have hb : b ≠ a := fun z => by
    subst z
    have e : lsObj us = o := Option.some.inj (ha.symm.trans g)
    subst e
    exact nomatch d
  exact ⟨o, es, ep, hidT_get g (L.off hb), d, r⟩
theorem Lone.frag (L : Lone K H a) (KX : K.In S1.heap) : K.In (hidT S1.heap H) := fun b o e => hidT_get (KX b o e) (by
  by_cases z : b = a
  · subst z
    cases q : H b with
    | none => rfl
    | some u => exact absurd ((L.notK (by rw [q]; simp)).symm.trans e) (by simp)
  · exact L.off z)
abbrev Ended (h : Heap) (os : OsState) : Result → Shared → Prop := fun r z => r = .ok (.ret (.bool true)) ∧ OldK h z.heap ∧ z.os = os ∧ AllBare z.gens
theorem law_lone (L : Lone K H a) (KX : K.In S1.heap) (n1 : S1.heap.Ns mainGlobals mg) (n2 : S1.heap.Ns builtinsNs mb) (nb : ∀ y : Str, y ≠ "__name__" → mb y = bootBuiltins y) (n3 : S1.heap.NoLimit)
    (g0 : S1.gens = #[]) (ha : S1.heap.get? a = some (lsObj us)) (hok : HOk P w H S1.heap) (hS : SqL K H a (ns.map V.int)) (room : Room k callerA)
    (F : ∀ base : Heap, K.In base → base.Ns mainGlobals mg → Fn P w K mg base x 1 k m) (bd : mg x = some (.ref fa))
    (hm : ∃ S, m [.lst (ns.map .int)] [] = .ok (.bl true) S) : codeAny (model P w) callerA (.call (.ref fa) ⟨[.ref a], []⟩) (Ended S1.heap S1.os) S1 := by
  obtain ⟨c, i1, i2⟩ := n3
  have M : Mod K mg (hidT S1.heap H) := ⟨L.frag KX, L.space ha n1, ⟨mb, L.space ha n2, nb⟩, ⟨c, L.space ha i1, i2⟩⟩
  have e0 : Env0 P w K mg (hidT S1.heap H) callerA [] S1 H := ⟨rfl, M, fun _ _ e => of_hidT e, Nat.le_of_eq (hidT_size _ _), trivial, fun _ q => (nomatch q), hok, .of_eq g0⟩
  have sp : spD w K mg 1 m [V.ref a] H (fun v _ => v = .bl true) (fun _ _ _ => False) := by
    refine ⟨rfl, [], H, [], [.lst (ns.map .int)], ⟨Sub.refl _, rfl, List.nodup_nil, fun _ q => (nomatch q), fun j b d q => (by simp at q)⟩, .cons (.lst hS (DVs.of_ints ns)) .nil, ?_⟩
    obtain ⟨S, e⟩ := hm
    rw [e]
    intro b H' β F' _ _ hv
    cases hv
    rfl
  obtain ⟨f', fd, ps, q1, _, q2, q3⟩ := (F _ M.kin (L.space ha n1)).ex
  obtain rfl : f' = fa := by rw [q1] at bd; cases bd; rfl
  have bt : BindsTo S1 fd ⟨[.ref a], []⟩ (ps.zip [.ref a]) := q2 S1 [.ref a] KX (q3.len _ _ _ _ sp)
  refine codeAny_mono (q3.run callerA [] S1 H ⟨[.ref a], []⟩ [.ref a] [V.ref a] (fun v _ => v = .bl true) _ room rfl e0 bt (.cons rfl .nil) sp) fun r z q => ?_
  match r, q with
  | .error _, ⟨_, _, _, _, _, _, _, _, _, _, _, q⟩ => exact q.2.elim
  | .ok (.ret u), ⟨v, H', os, bare, un, hok', r', q⟩ =>
    have q : v = .bl true := q
    subst q
    have r' : u = Value.bool true := r'
    subst r'
    refine ⟨rfl, OldK.of_keep fun b o e => ?_, os, bare⟩
    by_cases z : H b = none
    · exact un.keep b o e z (fun y => nomatch y) (fun y => nomatch y)
    · obtain ⟨y, hy⟩ : ∃ y, H b = some y := by
        cases q : H b with
        | none => exact absurd q z
        | some y => exact ⟨y, rfl⟩
      obtain ⟨ob, xs, rfl⟩ := L.frz b y hy
      have o1 := (hok b _ hy).1
      have o2 := (hok' b _ (un.frzs b ob _ hy)).1
      rw [e] at o1
      exact o2.trans o1.symm
  | .ok .next, q => exact q.elim
  | .ok .brk, q => exact q.elim
  | .ok .cont, q => exact q.elim
theorem law_mir (KX : K.In S1.heap) (n1 : S1.heap.Ns mainGlobals mg) (n2 : S1.heap.Ns builtinsNs mb) (nb : ∀ y : Str, y ≠ "__name__" → mb y = bootBuiltins y) (n3 : S1.heap.NoLimit) (g0 : S1.gens = #[]) (ha : S1.heap.get? a = some (lsObj us))
    (hi : IntsAre us ns) (hl : ns.length ≤ sizeLine) (room : Room k callerA) (F : ∀ base : Heap, K.In base → base.Ns mainGlobals mg → Fn P w K mg base x 1 k m) (bd : mg x = some (.ref fa))
    (hm : ∃ S, m [.lst (ns.map .int)] [] = .ok (.bl true) S) : codeAny (model P w) callerA (.call (.ref fa) ⟨[.ref a], []⟩) (Ended S1.heap S1.os) S1 := by
  have rv := vals_ints hi
  cases hk : K.lookup a with
  | some o =>
    have e := (KX a o hk).symm.trans ha
    cases e
    exact law_lone (H := fun _ => none) ⟨fun _ q => absurd rfl q, fun q => absurd rfl q, fun _ _ q => nomatch q⟩ KX n1 n2 nb n3 g0 ha (fun _ _ q => nomatch q)
      (.inr ⟨_, us.toArray, _, hk, rfl, rfl, rfl, by rw [List.size_toArray, hi.length]; exact hl, by simpa using rv⟩) room F bd hm
  | none =>
    refine law_lone (H := upd (fun _ => none) a (.frz (lsObj us) (.lst (ns.map V.int)))) ⟨fun b q => ?_, fun _ => hk, fun b u q => ?_⟩ KX n1 n2 nb n3 g0 ha (fun b u q => ?_) (.inl (.inr ⟨_, upd_same⟩)) room F bd hm
    · by_cases z : b = a
      · exact z
      · rw [upd_ne z] at q; exact absurd rfl q
    · by_cases z : b = a
      · subst z; rw [upd_same] at q; cases q; exact ⟨_, _, rfl⟩
      · rw [upd_ne z] at q; cases q
    · by_cases z : b = a
      · subst z; rw [upd_same] at q; cases q
        exact ⟨ha, by rw [List.length_map]; exact hl, us, _, rv, ha⟩
      · rw [upd_ne z] at q; cases q
end
/-- a law's end: what is given by the head, the mirror's answer -/
theorem walkG {l : PySem.W.OpenLaw} {n k : Nat} {q : Program} {loose : List Str} {XP : (Str → Option Value) → Heap → Prop} {YP : World → Heap → Prop} {d : DefRec} {m : Mir} (hn : l.most = some n) (hs : n ≤ sizeLine) (hd : d.params.defaults = []) (hr : Room k callerA)
    (F : ∀ (w : World) (mg : Str → Option Value) (h : Heap), YP w h → h.Ns mainGlobals mg → ∃ K : Fg, K.In h ∧ ∀ base : Heap, K.In base → base.Ns mainGlobals mg → Fn l.prog w K mg base d.name 1 k m)
    (hm : ∀ ns : List Int, ns.length ≤ n → ∃ S, m [.lst (ns.map .int)] [] = .ok (.bl true) S) : PySem.W.WalkO q loose XP YP l.row.toRowW d [] (fun f vs => PySem.call f vs) :=
  Att.attach_call hn hd fun w _ z mg mb fa _ _ _ _ a us ns G Y _ _ _ hmg ha hi hl hg => by
    obtain ⟨K, KX, hF⟩ := F w mg _ Y G.T.g
    exact law_mir KX G.T.g G.T.b G.T.builtins G.T.nolimit hg ha hi (Nat.le_trans hl hs) hr hF hmg (hm ns hl)
end DL

set_option Elab.async false
set_option linter.all false
set_option maxRecDepth 100000
set_option maxHeartbeats 4000000
set_option autoImplicit false
/-! Plain part: what a mirror answers, told by what must hold of its answer. -/
namespace DL
open PySem L2
def Res.post {A : Type} (r : Res A) (Q : A → Sto → Prop) : Prop := match r with
  | .ok a S => Q a S
  | _ => False
def Out.post (o : Out) (nx : Sl → Sto → Prop) (rt : D → Sto → Prop) (bk ct : Sl → Sto → Prop) : Prop := match o with
  | .nx δ S => nx δ S
  | .rt d S => rt d S
  | .bk δ S => bk δ S
  | .ct δ S => ct δ S
  | _ => False
abbrev NoS : Sl → Sto → Prop := fun _ _ => False
abbrev NoD : D → Sto → Prop := fun _ _ => False
section
variable {A A' : Type} {r : Res A} {f : A → Sto → Res A'} {Q : A → Sto → Prop} {Q' : A' → Sto → Prop} {δ : Sl} {S : Sto} {QD : D → Sto → Prop} {QL : List D → Sto → Prop} {QB : Bool → Sto → Prop} {QS : Sl → Sto → Prop} {N B C : Sl → Sto → Prop} {T : D → Sto → Prop}
theorem Res.post.ok {a : A} (h : Q a S) : (Res.ok a S).post Q := h
theorem Res.post.ex (h : r.post Q) : ∃ a S, r = .ok a S ∧ Q a S := by
  cases r with
  | ok a S => exact ⟨a, S, rfl, h⟩
  | err => exact h.elim
  | stuck => exact h.elim
theorem Res.post.mono {Q1 : A → Sto → Prop} (h : r.post Q1) (k : ∀ a S, Q1 a S → Q a S) : r.post Q := by
  cases r with
  | ok a S => exact k a S h
  | err => exact h.elim
  | stuck => exact h.elim
theorem Res.post.of_eq {a : A} (h : r = .ok a S) (q : Q a S) : r.post Q := by rw [h]; exact q
theorem Out.post.mono {o : Out} {N1 B1 C1 : Sl → Sto → Prop} {T1 : D → Sto → Prop} (h : o.post N1 T1 B1 C1) (k1 : ∀ δ S, N1 δ S → N δ S) (k2 : ∀ d S, T1 d S → T d S) (k3 : ∀ δ S, B1 δ S → B δ S) (k4 : ∀ δ S, C1 δ S → C δ S) : o.post N T B C := by
  cases o with
  | nx δ S => exact k1 _ _ h
  | rt δ S => exact k2 _ _ h
  | bk δ S => exact k3 _ _ h
  | ct δ S => exact k4 _ _ h
  | err => exact h.elim
  | stuck => exact h.elim
theorem p_bind (h : r.post fun a S1 => (f a S1).post Q') : (r.bind f).post Q' := by
  cases r with
  | ok a S => exact h
  | err => exact h.elim
  | stuck => exact h.elim
theorem p_lift {o : Option A} {a : A} (h : o = some a) (q : Q a S) : (Res.lift o S).post Q := by rw [h]; exact q
theorem p_out {g : A → Sto → Out} (h : r.post fun a S1 => (g a S1).post N T B C) : (r.out δ g).post N T B C := by
  cases r with
  | ok a S => exact h
  | err => exact h.elim
  | stuck => exact h.elim
/-! expressions -/
theorem p_var {i : Nat} {d : D} (e : δ[i]? = some (some d)) (h : QD d S) : (rVar i δ S).post QD := by unfold rVar; rw [e]; exact h
theorem p_c {d : D} (h : QD d S) : (rC d δ S).post QD := h
theorem p_un {g : Sto → D → Option D} {a : RE} (h : (a δ S).post fun x S1 => (Res.lift (g S1 x) S1).post QD) : (rUn g a δ S).post QD := p_bind h
theorem p_bin {g : Sto → D → D → Option D} {a b : RE} (h : (a δ S).post fun x S1 => (b δ S1).post fun y S2 => (Res.lift (g S2 x y) S2).post QD) : (rBin g a b δ S).post QD := p_bind (h.mono fun _ _ q => p_bind q)
theorem p_as {g : Sto → List D → Option D} {a : RA} (h : (a δ S).post fun x S1 => (Res.lift (g S1 x) S1).post QD) : (rAs g a δ S).post QD := p_bind h
theorem p_nil (h : QL [] S) : (rNil δ S).post QL := h
theorem p_cons {a : RE} {b : RA} (h : (a δ S).post fun x S1 => (b δ S1).post fun ys S2 => QL (x :: ys) S2) : (rCons a b δ S).post QL := p_bind (h.mono fun _ _ q => p_bind (q.mono fun _ _ q => q))
theorem p_call {m : Mir} {a : RA} (h : (a δ S).post fun xs S1 => (m xs S1).post QD) : (rCall m a δ S).post QD := p_bind h
theorem p_if {c : RB} {a b : RE} (h : (c δ S).post fun k S1 => (k = true → (a δ S1).post QD) ∧ (k = false → (b δ S1).post QD)) : (rIf c a b δ S).post QD := p_bind (h.mono fun k _ q => by
  cases k with
  | true => exact q.1 rfl
  | false => exact q.2 rfl)
theorem p_own {a : RE} (h : (a δ S).post fun d S1 => QD (.ptr S1.length) (S1 ++ [d])) : (rOwn a δ S).post QD := p_bind (h.mono fun _ _ q => q)
theorem p_tup {a : RA} (h : (a δ S).post fun xs S1 => xs.length ≤ sizeLine ∧ QD (.tup xs) S1) : (rTup a δ S).post QD := p_bind (h.mono fun _ _ q => by rw [if_pos q.1]; exact q.2)
theorem p_lst {a : RA} (h : (a δ S).post fun xs S1 => xs.length ≤ sizeLine ∧ QD (.lst xs) S1) : (rLst a δ S).post QD := p_bind (h.mono fun _ _ q => by rw [if_pos q.1]; exact q.2)
theorem p_keep {a : RE} (h : (a δ S).post fun d S1 => ∃ ds, d = .lst ds ∧ QD (.lst ds) S1) : (rKeep a δ S).post QD := p_bind (h.mono fun d _ ⟨ds, e, q⟩ => by subst e; exact q)
theorem p_tru {a : RE} (h : (a δ S).post fun d S1 => (Res.lift (truth S1 d) S1).post QB) : (bTru a δ S).post QB := p_bind h
theorem p_and {a b : RB} (h : (a δ S).post fun k S1 => (k = true → (b δ S1).post QB) ∧ (k = false → QB false S1)) : (bAnd a b δ S).post QB := p_bind (h.mono fun k _ q => by
  cases k with
  | true => exact q.1 rfl
  | false => exact q.2 rfl)
theorem p_or {a b : RB} (h : (a δ S).post fun k S1 => (k = true → QB true S1) ∧ (k = false → (b δ S1).post QB)) : (bOr a b δ S).post QB := p_bind (h.mono fun k _ q => by
  cases k with
  | true => exact q.1 rfl
  | false => exact q.2 rfl)
theorem p_not {a : RB} (h : (a δ S).post fun k S1 => QB (!k) S1) : (bNot a δ S).post QB := p_bind (h.mono fun _ _ q => q)
theorem p_val {a : RE} (h : (a δ S).post fun d S1 => ∃ k, d = .bl k ∧ QB k S1) : (bVal a δ S).post QB := p_bind (h.mono fun _ _ ⟨k, e, q⟩ => by subst e; exact q)
theorem p_rand {a b : RE} (h : (a δ S).post fun x S1 => ∃ k, truth S1 x = some k ∧ (k = true → (b δ S1).post QD) ∧ (k = false → QD x S1)) : (rAnd a b δ S).post QD := p_bind (h.mono fun x S1 ⟨k, e, q⟩ => p_bind (p_lift e (by
  cases k with
  | true => exact q.1 rfl
  | false => exact q.2 rfl)))
theorem p_ror {a b : RE} (h : (a δ S).post fun x S1 => ∃ k, truth S1 x = some k ∧ (k = true → QD x S1) ∧ (k = false → (b δ S1).post QD)) : (rOr a b δ S).post QD := p_bind (h.mono fun x S1 ⟨k, e, q⟩ => p_bind (p_lift e (by
  cases k with
  | true => exact q.1 rfl
  | false => exact q.2 rfl)))
theorem p_rnot {a : RE} (h : (a δ S).post fun x S1 => ∃ k, truth S1 x = some k ∧ QD (.bl (!k)) S1) : (rNot a δ S).post QD := p_bind (h.mono fun x S1 ⟨k, e, q⟩ => p_bind (p_lift e q))
theorem p_chain {g g' : Sto → D → D → Option D} {a b c : RE} (h : (a δ S).post fun x S1 => (b δ S1).post fun y S2 => ∃ k, g S2 x y = some (.bl k) ∧ (k = true → (c δ S2).post fun u S4 => (Res.lift (g' S4 y u) S4).post QD) ∧ (k = false → QD (.bl false) S2)) : (rChain g g' a b c δ S).post QD :=
  p_bind (h.mono fun x S1 q => p_bind (q.mono fun y S2 ⟨k, e, q⟩ => p_bind (p_lift e (by
    cases k with
    | true => exact p_bind (q.1 rfl)
    | false => exact q.2 rfl))))
theorem p_meth {T : String} {g : Sto → D → List D → Option (D × Sto)} {a : RE} {as : RA} (h : (a δ S).post fun x S1 => isTy T S1 x = true ∧ (as δ S1).post fun ys S2 => ∃ z S3, g S2 x ys = some (z, S3) ∧ QD z S3) : (rMeth T g a as δ S).post QD :=
  p_bind (h.mono fun x S1 ⟨e, q⟩ => by rw [if_pos e]; exact p_bind (q.mono fun ys S2 ⟨z, S3, e, q⟩ => by rw [e]; exact q))
/-! statements -/
theorem s_next (h : N δ S) : (sNext δ S).post N T B C := h
theorem s_seq {a b : RS} (h : (a δ S).post (fun δ1 S1 => (b δ1 S1).post N T B C) T B C) : (sSeq a b δ S).post N T B C := by
  unfold sSeq
  cases q : a δ S with
  | nx δ1 S1 => rw [q] at h; exact h
  | _ => rw [q] at h; exact h
theorem s_asg {e : RE} {g : RG} (h : (e δ S).post fun d S1 => (g d δ S1).post fun δ1 S2 => N δ1 S2) : (sAsg e g δ S).post N T B C := p_out (h.mono fun _ _ q => p_out (q.mono fun _ _ q => q))
theorem s_name {i : Nat} {d : D} (hi : i < δ.length) (h : QS (δ.set i (some d)) S) : (gName i d δ S).post QS := by unfold gName; rw [if_pos hi]; exact h
theorem s_gtup {u : List D → Sl → Sto → Res Sl} {d : D} {ds : List D} (e : deref S d = .tup ds) (h : (u ds δ S).post QS) : (gTup u d δ S).post QS := by unfold gTup; rw [e]; exact h
theorem s_gunl {u : List D → Sl → Sto → Res Sl} {d : D} {ds : List D} (e : deref S d = .lst ds) (h : (u ds δ S).post QS) : (gUnl u d δ S).post QS := by unfold gUnl; rw [e]; exact h
theorem s_gnil (h : QS δ S) : (gNil [] δ S).post QS := h
theorem s_gcons {g : RG} {u : List D → Sl → Sto → Res Sl} {d : D} {r : List D} (h : (g d δ S).post fun δ1 S1 => (u r δ1 S1).post QS) : (gCons g u (d :: r) δ S).post QS := p_bind h
theorem s_expr {e : RE} (h : (e δ S).post fun _ S1 => N δ S1) : (sExpr e δ S).post N T B C := p_out (h.mono fun _ _ q => q)
theorem s_ret {e : RE} (h : (e δ S).post fun d S1 => T d S1) : (sRet e δ S).post N T B C := p_out (h.mono fun _ _ q => q)
theorem s_if {c : RB} {a b : RS} (h : (c δ S).post fun k S1 => (k = true → (a δ S1).post N T B C) ∧ (k = false → (b δ S1).post N T B C)) : (sIf c a b δ S).post N T B C := p_out (h.mono fun k _ q => by
  cases k with
  | true => exact q.1 rfl
  | false => exact q.2 rfl)
theorem s_brk (h : B δ S) : (sBreak δ S).post N T B C := h
theorem s_cont (h : C δ S) : (sCont δ S).post N T B C := h
theorem s_par {i j : Nat} {a : RA} (h : (a δ S).post fun xs S1 => ∃ x y, xs = [x, y] ∧ i < δ.length ∧ j < δ.length ∧ N ((δ.set i (some x)).set j (some y)) S1) : (sPar i j a δ S).post N T B C :=
  p_out (h.mono fun xs S1 ⟨x, y, e, h1, h2, q⟩ => by subst e; dsimp only; rw [if_pos ⟨h1, h2⟩]; exact q)
theorem s_for {it : RA} {g : RG} {b : RS} (h : (it δ S).post fun xs S1 => (forL g b xs δ S1).post N T B C) : (sFor it g b δ S).post N T B C := p_out h
/-- the loop's law: I holds ahead of each turn -/
theorem s_forL {g : RG} {b : RS} (I : List D → Sl → Sto → Prop) (step : ∀ x xs δ S, I (x :: xs) δ S → (g x δ S).post fun δ1 S1 => (b δ1 S1).post (fun δ2 S2 => I xs δ2 S2) T N fun δ2 S2 => I xs δ2 S2) (fin : ∀ δ S, I [] δ S → N δ S) :
    ∀ (xs : List D) (δ : Sl) (S : Sto), I xs δ S → (forL g b xs δ S).post N T B C
  | [], δ, S, h => fin δ S h
  | x :: xs, δ, S, h => by
    unfold forL
    refine p_out ((step x xs δ S h).mono fun δ1 S1 q => ?_)
    cases e : b δ1 S1 with
    | nx δ2 S2 => rw [e] at q; exact s_forL I step fin xs δ2 S2 q
    | ct δ2 S2 => rw [e] at q; exact s_forL I step fin xs δ2 S2 q
    | bk δ2 S2 => rw [e] at q; exact q
    | rt d S2 => rw [e] at q; exact q
    | err => rw [e] at q; exact q.elim
    | stuck => rw [e] at q; exact q.elim
theorem s_while {fuel : Sl → Sto → Nat} {c : RB} {b : RS} (h : (whileL c b (fuel δ S) δ S).post N T B C) : (sWhile fuel c b δ S).post N T B C := h
/-- I n: at most n turns are left -/
theorem s_whileL {c : RB} {b : RS} (I : Nat → Sl → Sto → Prop) (step : ∀ n δ S, I n δ S → (c δ S).post fun k S1 => (k = true → ∃ m, n = m + 1 ∧ (b δ S1).post (fun δ2 S2 => I m δ2 S2) T N fun δ2 S2 => I m δ2 S2) ∧ (k = false → N δ S1)) :
    ∀ (n m : Nat) (δ : Sl) (S : Sto), I n δ S → n < m → (whileL c b m δ S).post N T B C
  | _, 0, _, _, _, hm => absurd hm (Nat.not_lt_zero _)
  | n, m + 1, δ, S, h, hm => by
    unfold whileL
    refine p_out ((step n δ S h).mono fun k S1 q => ?_)
    cases k with
    | false => exact q.2 rfl
    | true =>
      obtain ⟨n', rfl, q'⟩ := q.1 rfl
      clear q
      rw [if_pos rfl]
      cases e : b δ S1 with
      | nx δ2 S2 => rw [e] at q'; exact s_whileL I step n' m δ2 S2 q' (by omega)
      | ct δ2 S2 => rw [e] at q'; exact s_whileL I step n' m δ2 S2 q' (by omega)
      | bk δ2 S2 => rw [e] at q'; exact q'
      | rt d S2 => rw [e] at q'; exact q'
      | err => rw [e] at q'; exact q'.elim
      | stuck => rw [e] at q'; exact q'.elim
/-! walks -/
theorem p_seq {a : RE} (h : (a δ S).post fun x S1 => (∃ ds, x = .lst ds ∧ QL ds S1) ∨ (∃ ds, x = .tup ds ∧ QL ds S1) ∨ ∃ z, x = .str z ∧ QL (z.cps.toList.map fun c => .str ⟨#[c]⟩) S1) : (rSeq a δ S).post QL :=
  p_bind (h.mono fun x S1 q => by rcases q with ⟨ds, e, q⟩ | ⟨ds, e, q⟩ | ⟨z, e, q⟩ <;> subst e <;> exact q)
theorem p_enum {a : RA} (h : (a δ S).post fun xs S1 => ∃ ds, xs = [.lst ds] ∧ QL (enumD 0 ds) S1) : (rEnum a δ S).post QL := p_bind (h.mono fun _ _ ⟨ds, e, q⟩ => by subst e; exact q)
theorem p_range1 {a : RA} (h : (a δ S).post fun xs S1 => ∃ j, xs = [.int j] ∧ -(2 ^ 62) ≤ j ∧ j < 2 ^ 62 ∧ QL (rangeD 0 j) S1) : (rRange a δ S).post QL := p_bind (h.mono fun _ _ ⟨j, e, h1, h2, q⟩ => by subst e; dsimp only; rw [if_pos ⟨h1, h2⟩]; exact q)
theorem p_range2 {a : RA} (h : (a δ S).post fun xs S1 => ∃ i j, xs = [.int i, .int j] ∧ -(2 ^ 62) ≤ i ∧ i < 2 ^ 62 ∧ -(2 ^ 62) ≤ j ∧ j < 2 ^ 62 ∧ QL (rangeD i j) S1) : (rRange a δ S).post QL :=
  p_bind (h.mono fun _ _ ⟨i, j, e, h1, h2, h3, h4, q⟩ => by subst e; dsimp only; rw [if_pos ⟨h1, h2, h3, h4⟩]; exact q)
/-- the loop's law of a comprehension: I left done -/
theorem p_lcL {g : RG} {t : RB} {e : RE} (I : List D → List D → Sto → Prop) (step : ∀ x xs acc S, I (x :: xs) acc S → (g x δ S).post fun δ1 S1 => (t δ1 S1).post fun k S2 => (k = true → (e δ1 S2).post fun y S3 => I xs (acc ++ [y]) S3) ∧ (k = false → I xs acc S2)) :
    ∀ (xs acc : List D) (S : Sto), I xs acc S → (lcL g t e xs δ S).post fun ys S' => I [] (acc ++ ys) S'
  | [], acc, S, h => by
    show I [] (acc ++ []) S
    rw [List.append_nil]; exact h
  | x :: xs, acc, S, h => by
    unfold lcL
    refine p_bind ((step x xs acc S h).mono fun δ1 S1 q => p_bind (q.mono fun k S2 q => ?_))
    cases k with
    | true =>
      rw [if_pos rfl]
      refine p_bind ((q.1 rfl).mono fun y S3 q => p_bind ((p_lcL I step xs (acc ++ [y]) S3 q).mono fun ys S4 q => ?_))
      show I [] (acc ++ y :: ys) S4
      rw [List.append_assoc] at q
      exact q
    | false => exact p_lcL I step xs acc S2 (q.2 rfl)
theorem p_lc {it : RA} {g : RG} {vs : List Nat} {t : RB} {e : RE} (h : (it δ S).post fun xs S1 => (lcL g t e xs (wipeD δ vs) S1).post fun ys S2 => ys.length ≤ sizeLine ∧ QD (.lst ys) S2) : (rLc it g vs t e δ S).post QD :=
  p_bind (h.mono fun xs S1 q => p_bind (by
    obtain ⟨ys, S2, e1, e2⟩ := q.ex
    rw [e1]
    show (if ys.length ≤ sizeLine then Res.ok (D.lst ys) S2 else .stuck).post QD
    rw [if_pos e2.1]; exact e2.2))
theorem p_yes (h : QB true S) : (bYes δ S).post QB := h
/-! a def -/
theorem m_def {n : Nat} {b : RS} {ds : List D} (h : (b (ds.map some ++ List.replicate (n - ds.length) none) S).post
    (fun _ S1 => closedL S.length (S1.take S.length) = true ∧ QD .non (S1.take S.length)) (fun d S1 => (D.closed S.length d && closedL S.length (S1.take S.length)) = true ∧ QD d (S1.take S.length)) NoS NoS) : (mDef n b ds S).post QD := by
  unfold mDef
  cases q : b (ds.map some ++ List.replicate (n - ds.length) none) S with
  | nx δ S1 => rw [q] at h; dsimp only; rw [if_pos h.1]; exact h.2
  | rt d S1 => rw [q] at h; dsimp only; rw [if_pos h.1]; exact h.2
  | _ => rw [q] at h; exact h.elim
end
end DL

set_option Elab.async false
set_option linter.all false
set_option maxRecDepth 100000
set_option maxHeartbeats 4000000
set_option autoImplicit false
/-! Plain part: operations on what is known. -/
namespace DL
open PySem L2
section
variable {S : Sto} {i j : Int} {x y : Str} {b c : Bool} {Q : D → Sto → Prop} {QB : Bool → Sto → Prop}
theorem o_add (h : Q (.int (i + j)) S) : (Res.lift (gAdd S (.int i) (.int j)) S).post Q := h
theorem o_sub (h : Q (.int (i - j)) S) : (Res.lift (gSub S (.int i) (.int j)) S).post Q := h
theorem o_mul (f : mulFits i j = true) (h : Q (.int (i * j)) S) : (Res.lift (gMul S (.int i) (.int j)) S).post Q := p_lift (by unfold gMul; dsimp only; rw [if_pos f]) h
theorem o_mod (f : j ≠ 0) (h : Q (.int (i.fmod j)) S) : (Res.lift (gMod S (.int i) (.int j)) S).post Q := p_lift (by unfold gMod; dsimp only; rw [if_pos f]) h
theorem o_div (f : j ≠ 0 ∧ j.natAbs.log2 < 9000) (h : Q (.int (i.fdiv j)) S) : (Res.lift (gDiv S (.int i) (.int j)) S).post Q := p_lift (by unfold gDiv; dsimp only; rw [if_pos f]) h
theorem o_pow (f : 0 ≤ j ∧ j ≤ 1000000 ∧ i.natAbs < 2 ^ 64) (h : Q (.int (i ^ j.toNat)) S) : (Res.lift (gPow S (.int i) (.int j)) S).post Q := p_lift (by unfold gPow; dsimp only; rw [if_pos ⟨f.1, .inl f.2⟩]) h
theorem o_powW (f : 0 ≤ j) (g : (PySem.Builtin.Int.intBits i : Int) * j ≤ 2 ^ 27) (h : Q (.int (i ^ j.toNat)) S) : (Res.lift (gPow S (.int i) (.int j)) S).post Q := p_lift (by unfold gPow; dsimp only; rw [if_pos ⟨f, .inr g⟩]) h
theorem o_neg (h : Q (.int (-i)) S) : (Res.lift (gNeg S (.int i)) S).post Q := h
theorem o_lt (h : Q (.bl (decide (i < j))) S) : (Res.lift (gLt S (.int i) (.int j)) S).post Q := h
theorem o_le (h : Q (.bl (decide (i ≤ j))) S) : (Res.lift (gLe S (.int i) (.int j)) S).post Q := h
theorem o_gt (h : Q (.bl (decide (j < i))) S) : (Res.lift (gGt S (.int i) (.int j)) S).post Q := h
theorem o_ge (h : Q (.bl (decide (j ≤ i))) S) : (Res.lift (gGe S (.int i) (.int j)) S).post Q := h
theorem o_eqg {d e : D} {u v : PyData} (h1 : toPy S (deref S d) = some u) (h2 : toPy S (deref S e) = some v) (h3 : SeqAt.shaped u = true) (h4 : SeqAt.shaped v = true) (h : Q (.bl (PyData.eqv u v)) S) : (Res.lift (gEq S d e) S).post Q :=
  p_lift (by unfold gEq eqD; rw [h1, h2]; dsimp only; rw [h3, h4]; rfl) h
theorem o_neg_ {d e : D} {u v : PyData} (h1 : toPy S (deref S d) = some u) (h2 : toPy S (deref S e) = some v) (h3 : SeqAt.shaped u = true) (h4 : SeqAt.shaped v = true) (h : Q (.bl (!PyData.eqv u v)) S) : (Res.lift (gNe S d e) S).post Q :=
  p_lift (by unfold gNe eqD; rw [h1, h2]; dsimp only; rw [h3, h4]; rfl) h
theorem shaped_int : SeqAt.shaped (.int i) = true := by unfold SeqAt.shaped; simp [PyData.canLay0, PyData.depth]
theorem shaped_bl : SeqAt.shaped (.bool b) = true := by unfold SeqAt.shaped; simp [PyData.canLay0, PyData.depth]
theorem shaped_non : SeqAt.shaped .none = true := by unfold SeqAt.shaped; simp [PyData.canLay0, PyData.depth]
theorem shaped_str (h : PyData.strOk x = true) : SeqAt.shaped (.str x) = true := by unfold SeqAt.shaped; simp [PyData.canLay0, PyData.depth, h]
theorem o_eqI (h : Q (.bl (i == j)) S) : (Res.lift (gEq S (.int i) (.int j)) S).post Q := o_eqg rfl rfl shaped_int shaped_int (by simpa [PyData.eqv] using h)
theorem o_neI (h : Q (.bl (!(i == j))) S) : (Res.lift (gNe S (.int i) (.int j)) S).post Q := o_neg_ rfl rfl shaped_int shaped_int (by simpa [PyData.eqv] using h)
theorem o_eqS (h1 : PyData.strOk x = true) (h2 : PyData.strOk y = true) (h : Q (.bl (x == y)) S) : (Res.lift (gEq S (.str x) (.str y)) S).post Q := o_eqg rfl rfl (shaped_str h1) (shaped_str h2) (by simpa [PyData.eqv] using h)
theorem o_neS (h1 : PyData.strOk x = true) (h2 : PyData.strOk y = true) (h : Q (.bl (!(x == y))) S) : (Res.lift (gNe S (.str x) (.str y)) S).post Q := o_neg_ rfl rfl (shaped_str h1) (shaped_str h2) (by simpa [PyData.eqv] using h)
theorem o_abs (h : Q (.int i.natAbs) S) : (Res.lift (gAbs S [.int i]) S).post Q := p_lift (a := .int i.natAbs) (by unfold gAbs; dsimp only; congr 2; omega) h
theorem o_tru (h : QB b S) : (Res.lift (truth S (.bl b)) S).post QB := h
theorem o_ixT {xs : List D} {d : D} (e : atI xs i = some d) (h : Q d S) : (Res.lift (gIx S (.tup xs) (.int i)) S).post Q := p_lift e h
theorem o_ixL {xs : List D} {d : D} (e : atI xs i = some d) (h : Q d S) : (Res.lift (gIx S (.lst xs) (.int i)) S).post Q := p_lift e h
theorem p_true {A B : Prop} (h : A) : (true = true → A) ∧ (true = false → B) := ⟨fun _ => h, fun z => nomatch z⟩
theorem p_false {A B : Prop} (h : B) : (false = true → A) ∧ (false = false → B) := ⟨fun z => (nomatch z), fun _ => h⟩
theorem p_ex {A : Type} {x : A} {R T : A → Prop} (e : R x) (h : T x) : ∃ x, R x ∧ T x := ⟨x, e, h⟩
theorem p_ex2 {A B : Type} {x : A} {y : B} {R T : A → B → Prop} (e : R x y) (h : T x y) : ∃ x y, R x y ∧ T x y := ⟨x, y, e, h⟩
theorem p_var2 {i : Nat} {δ : Sl} (h : ∃ d, δ[i]? = some (some d) ∧ Q d S) : (rVar i δ S).post Q := let ⟨_, e, q⟩ := h; p_var e q
theorem p_isT {k : Bool} {A B : Prop} (e : k = true) (h : A) : (k = true → A) ∧ (k = false → B) := by subst e; exact p_true h
theorem p_isF {k : Bool} {A B : Prop} (e : k = false) (h : B) : (k = true → A) ∧ (k = false → B) := by subst e; exact p_false h
end
local macro_rules | `(tactic| walk_at "1") => `(tactic| with_reducible first
  | refine s_seq ?_ | refine s_asg ?_ | refine s_ret ?_ | refine s_if ?_ | refine s_expr ?_ | refine s_next ?_ | refine s_brk ?_ | refine s_cont ?_ | refine s_for ?_ | refine s_while ?_
  | refine p_c ?_ | refine p_bin ?_ | refine p_as ?_ | refine p_cons ?_ | refine p_nil ?_ | refine p_un ?_ | refine p_call ?_ | refine p_if ?_ | refine p_own ?_
  | refine p_keep ?_ | refine p_tru ?_ | refine p_and ?_ | refine p_or ?_ | refine p_not ?_ | refine p_val ?_ | refine p_rand ?_ | refine p_ror ?_ | refine p_rnot ?_ | refine p_chain ?_
  | refine o_add ?_ | refine o_sub ?_ | refine o_lt ?_ | refine o_le ?_ | refine o_gt ?_ | refine o_ge ?_ | refine o_neg ?_ | refine o_eqI ?_ | refine o_neI ?_ | refine o_abs ?_ | refine o_tru ?_ | refine p_true ?_ | refine p_false ?_
  | refine s_par ?_ | refine p_yes ?_ | refine p_lc ?_ | refine p_seq ?_ | refine s_gnil ?_ | refine s_gcons ?_)
local macro_rules | `(tactic| walk_at "2") => `(tactic| first
  | walk_at "1"
  | (with_reducible refine p_var2 ?_)
  | ((with_reducible refine s_name ?_ ?_); (· exact Nat.le_of_ble_eq_true rfl); dsimp only [List.set_cons_zero, List.set_cons_succ])
  | (with_reducible refine p_tup ?_) | ((with_reducible refine ⟨?_, ?_⟩); (· exact Nat.le_of_ble_eq_true rfl))
  | ((with_reducible refine p_ex2 (x := ?_) (y := ?_) ?_ ?_); rotate_left; rotate_left; (· rfl); refine ⟨?_, ?_, ?_⟩; (· exact Nat.le_of_ble_eq_true rfl); (· exact Nat.le_of_ble_eq_true rfl); dsimp only [List.set_cons_zero, List.set_cons_succ])
  | ((with_reducible refine p_isT ?_ ?_); (· rfl)) | ((with_reducible refine p_isF ?_ ?_); (· rfl))
  | ((with_reducible refine p_ex (x := ?_) ?_ ?_); rotate_left; (· rfl)))
/-! a trial: the greatest common divisor -/
example (a b : Int) (S : Sto) : ((rBin gAdd (rVar 0) (rC (.int 3))) [some (.int a), some (.int b)] S).post fun d S' => d = .int (a + 3) ∧ S' = S := by
  repeat walk_at "2"
  exact ⟨rfl, rfl⟩
end DL

set_option Elab.async false
set_option linter.all false
set_option maxRecDepth 100000
set_option maxHeartbeats 4000000
set_option autoImplicit false
/-! Plain part: comprehensions that leave the store, answers that leave it. -/
namespace DL
open PySem L2
theorem lcL_map {i : Nat} {e : RE} {f : D → D} {δ : Sl} {S : Sto} (hi : i < δ.length) : ∀ {xs : List D}, (∀ x ∈ xs, e (δ.set i (some x)) S = .ok (f x) S) → lcL (gName i) bYes e xs δ S = .ok (xs.map f) S
  | [], _ => rfl
  | x :: xs, h => by
    unfold lcL gName
    rw [if_pos hi]
    show (e (δ.set i (some x)) S).bind _ = _
    rw [h x List.mem_cons_self]
    show (lcL (gName i) bYes e xs δ S).bind _ = _
    rw [lcL_map hi fun y hy => h y (List.mem_cons_of_mem _ hy)]
    rfl
theorem lcL_filter {i : Nat} {t : RB} {e : RE} {p : D → Bool} {δ : Sl} {S : Sto} (hi : i < δ.length) : ∀ {xs : List D}, (∀ x ∈ xs, t (δ.set i (some x)) S = .ok (p x) S) → (∀ x ∈ xs, e (δ.set i (some x)) S = .ok x S) → lcL (gName i) t e xs δ S = .ok (xs.filter p) S
  | [], _, _ => rfl
  | x :: xs, h, he => by
    unfold lcL gName
    rw [if_pos hi]
    show (t (δ.set i (some x)) S).bind _ = _
    rw [h x List.mem_cons_self]
    have ih := lcL_filter hi (fun y hy => h y (List.mem_cons_of_mem _ hy)) (fun y hy => he y (List.mem_cons_of_mem _ hy))
    rw [List.filter_cons]
    cases q : p x with
    | true =>
      show (e (δ.set i (some x)) S).bind _ = _
      rw [he x List.mem_cons_self]
      show (lcL (gName i) t e xs δ S).bind _ = _
      rw [ih]
      rfl
    | false =>
      show lcL (gName i) t e xs δ S = _
      rw [ih]
      rfl
/-- an answer that leaves the store as it is -/
theorem same_of {m : Mir} {ds : List D} {d : D} {S : Sto} (h : (m ds S).post fun z S' => z = d ∧ S' = S) : m ds S = .ok d S := by
  obtain ⟨a, S1, e, rfl, rfl⟩ := h.ex
  exact e
theorem exact_of {A : Type} {r : Res A} {a : A} {S : Sto} (h : r.post fun z S' => z = a ∧ S' = S) : r = .ok a S := by
  obtain ⟨a, S1, e, rfl, rfl⟩ := h.ex
  exact e
/-- a store in which nothing that is made now is told -/
def Sane (S : Sto) : Prop := closedL S.length S = true
theorem m_defS {n : Nat} {b : RS} {ds : List D} {S : Sto} {d : D} (hS : Sane S) (hd : D.closed S.length d = true) (h : (b (ds.map some ++ List.replicate (n - ds.length) none) S).post NoS (fun z S1 => z = d ∧ S1 = S) NoS NoS) : mDef n b ds S = .ok d S :=
  same_of (m_def (h.mono (fun _ _ z => z.elim) (fun z S1 ⟨e1, e2⟩ => by
    subst e1 e2
    rw [List.take_length, hd, show closedL S1.length S1 = true from hS]
    exact ⟨rfl, rfl, rfl⟩) (fun _ _ z => z) (fun _ _ z => z)))
theorem m_defQ {n : Nat} {b : RS} {ds : List D} {S : Sto} {Q : D → Prop} (hS : Sane S) (hd : ∀ d, Q d → D.closed S.length d = true) (h : (b (ds.map some ++ List.replicate (n - ds.length) none) S).post NoS (fun z S1 => Q z ∧ S1 = S) NoS NoS) : (mDef n b ds S).post fun d S' => Q d ∧ S' = S :=
  m_def (h.mono (fun _ _ z => z.elim) (fun z S1 ⟨e1, e2⟩ => by
    subst e2
    rw [List.take_length, hd z e1, show closedL S1.length S1 = true from hS]
    exact ⟨rfl, e1, rfl⟩) (fun _ _ z => z) (fun _ _ z => z))
theorem fits_of {i j : Int} {a b : Nat} (h1 : i.natAbs < 2 ^ a) (h2 : j.natAbs < 2 ^ b) (h : a + b ≤ 1000000) : mulFits i j = true := by
  have lg : ∀ {n k : Nat}, n < 2 ^ k → n.log2 ≤ k := fun {n k} hn => by
    by_cases z : n = 0
    · subst z; simp
    · exact Nat.le_of_lt ((Nat.log2_lt z).mpr hn)
  have l1 := lg h1
  have l2 := lg h2
  unfold mulFits
  rw [Bool.or_eq_true]
  refine .inl ?_
  by_cases e : a + b < 1000000
  · exact decide_eq_true (by omega)
  · refine decide_eq_true ?_
    by_cases z : i.natAbs = 0
    · rw [z]
      by_cases y : b = 0
      · subst y
        have : j.natAbs.log2 = 0 := by omega
        simp [this]
      · by_cases w : j.natAbs = 0
        · rw [w]; decide
        · have := (Nat.log2_lt w).mpr h2
          simp only [Nat.log2_zero]; omega
    · have := (Nat.log2_lt z).mpr h1
      omega
theorem fits_l {i j : Int} (h : i.natAbs < 2 ^ 64) : mulFits i j = true := by
  unfold mulFits
  rw [decide_eq_true h, Bool.true_or, Bool.or_true]
theorem fits_r {i j : Int} (h : j.natAbs < 2 ^ 64) : mulFits i j = true := by
  unfold mulFits
  rw [decide_eq_true h, Bool.or_true, Bool.or_true]
theorem log_of {j : Int} {b : Nat} (h : j.natAbs < 2 ^ b) (hb : b < 9000) : j.natAbs.log2 < 9000 := by
  by_cases z : j.natAbs = 0
  · rw [z]; decide
  · have := (Nat.log2_lt z).mpr h
    omega
theorem closed_ints : ∀ {n : Nat} {ns : List Int}, closedL n (ns.map .int) = true
  | _, [] => rfl
  | n, i :: r => by unfold List.map closedL; rw [closed_ints]; rfl
theorem toPys_ints {S : Sto} : ∀ ns : List Int, toPys S (ns.map .int) = some (ns.map .int)
  | [] => rfl
  | i :: r => by unfold List.map toPys toPy; rw [toPys_ints r]
theorem eqvAll_ints : ∀ ns ms : List Int, PyData.eqvAll (ns.map .int) (ms.map .int) = decide (ns = ms)
  | [], [] => by simp [PyData.eqvAll]
  | [], _ :: _ => by simp [PyData.eqvAll]
  | _ :: _, [] => by simp [PyData.eqvAll]
  | a :: r, b :: q => by simp [PyData.eqvAll, PyData.eqv, eqvAll_ints r q, Bool.beq_eq_decide_eq]
theorem lay_ints : ∀ ns : List Int, PyData.canLayAll0 (ns.map .int) = true ∧ PyData.depthAll (ns.map .int) = 0
  | [] => ⟨by simp [PyData.canLayAll0], by simp [PyData.depthAll]⟩
  | a :: r => by
    obtain ⟨h1, h2⟩ := lay_ints r
    exact ⟨by simp [PyData.canLayAll0, PyData.canLay0, h1], by simp [PyData.depthAll, PyData.depth, h2]⟩
theorem shaped_ints (ns : List Int) : SeqAt.shaped (.list (ns.map .int)) = true ∧ SeqAt.shaped (.tuple (ns.map .int)) = true := by
  obtain ⟨h1, h2⟩ := lay_ints ns
  constructor <;> · unfold SeqAt.shaped; simp [PyData.canLay0, PyData.depth, h1, h2]
theorem o_eqIs {S : Sto} {ns ms : List Int} {Q : D → Sto → Prop} (h : Q (.bl (decide (ns = ms))) S) : (Res.lift (gEq S (.lst (ns.map .int)) (.lst (ms.map .int))) S).post Q :=
  o_eqg (u := .list (ns.map .int)) (v := .list (ms.map .int)) (by show (toPys S (ns.map .int)).map PyData.list = _; rw [toPys_ints]; rfl) (by show (toPys S (ms.map .int)).map PyData.list = _; rw [toPys_ints]; rfl) (shaped_ints ns).1 (shaped_ints ms).1 (by simpa [PyData.eqv, eqvAll_ints] using h)
theorem o_neIs {S : Sto} {ns ms : List Int} {Q : D → Sto → Prop} (h : Q (.bl (!decide (ns = ms))) S) : (Res.lift (gNe S (.lst (ns.map .int)) (.lst (ms.map .int))) S).post Q :=
  o_neg_ (u := .list (ns.map .int)) (v := .list (ms.map .int)) (by show (toPys S (ns.map .int)).map PyData.list = _; rw [toPys_ints]; rfl) (by show (toPys S (ms.map .int)).map PyData.list = _; rw [toPys_ints]; rfl) (shaped_ints ns).1 (shaped_ints ms).1 (by simpa [PyData.eqv, eqvAll_ints] using h)
theorem o_eqTs {S : Sto} {ns ms : List Int} {Q : D → Sto → Prop} (h : Q (.bl (decide (ns = ms))) S) : (Res.lift (gEq S (.tup (ns.map .int)) (.tup (ms.map .int))) S).post Q :=
  o_eqg (u := .tuple (ns.map .int)) (v := .tuple (ms.map .int)) (by show (toPys S (ns.map .int)).map PyData.tuple = _; rw [toPys_ints]; rfl) (by show (toPys S (ms.map .int)).map PyData.tuple = _; rw [toPys_ints]; rfl) (shaped_ints ns).2 (shaped_ints ms).2 (by simpa [PyData.eqv, eqvAll_ints] using h)
theorem rangeD_nat (j : Nat) : rangeD 0 j = (List.range j).map fun (i : Nat) => D.int i := by
  unfold rangeD
  rw [show ((j : Int) - 0).toNat = j by omega]
  refine List.map_congr_left fun i _ => ?_
  rw [Int.zero_add]
theorem rangeD_len (j : Nat) : (rangeD 0 j).length = j := by rw [rangeD_nat, List.length_map, List.length_range]
theorem range_cons {j i : Nat} {x : D} {xs : List D} (e : x :: xs = (rangeD 0 j).drop i) : x = .int i ∧ i < j ∧ xs = (rangeD 0 j).drop (i + 1) := by
  have hlt : i < (rangeD 0 j).length := by
    rcases Nat.lt_or_ge i (rangeD 0 j).length with q | q
    · exact q
    · rw [List.drop_eq_nil_of_le q] at e; cases e
  rw [List.drop_eq_getElem_cons hlt] at e
  rw [rangeD_len] at hlt
  refine ⟨?_, hlt, (List.cons.inj e).2⟩
  have h := (List.cons.inj e).1
  rw [h]
  have : (rangeD 0 j)[i]? = some (.int i) := by rw [rangeD_nat, List.getElem?_map, List.getElem?_range hlt]; rfl
  rw [List.getElem?_eq_getElem (by rw [rangeD_len]; exact hlt)] at this
  exact Option.some.inj this
theorem range_nil {j i : Nat} (e : [] = (rangeD 0 j).drop i) : j ≤ i := by
  have := congrArg List.length e
  rw [List.length_drop, rangeD_len] at this
  have h0 : ([] : List D).length = 0 := rfl
  omega
end DL

set_option Elab.async false
set_option linter.all false
set_option maxRecDepth 100000
set_option maxHeartbeats 4000000
set_option autoImplicit false
/-! Plain part: dicts in the store, what a def gives away. -/
namespace DL
open PySem L2
theorem closedL_set {n : Nat} : ∀ {S : Sto} {k : Nat} {d : D}, closedL n S = true → D.closed n d = true → closedL n (S.set k d) = true
  | [], _, _, h, _ => h
  | a :: r, 0, d, h, hd => by
    unfold closedL at h
    rw [Bool.and_eq_true] at h
    show closedL n (d :: r) = true
    unfold closedL
    rw [hd, h.2]; rfl
  | a :: r, k + 1, d, h, hd => by
    unfold closedL at h
    rw [Bool.and_eq_true] at h
    show closedL n (a :: r.set k d) = true
    unfold closedL
    rw [h.1, closedL_set h.2 hd]; rfl
theorem sane_set {S : Sto} {k : Nat} {d : D} (h : Sane S) (hd : D.closed S.length d = true) : Sane (S.set k d) := by
  unfold Sane
  rw [List.length_set]
  exact closedL_set h hd
mutual
theorem closed_mono {n m : Nat} (h : n ≤ m) : ∀ {d : D}, D.closed n d = true → D.closed m d = true
  | .ptr k, e => by
    unfold D.closed at e ⊢
    exact decide_eq_true (Nat.lt_of_lt_of_le (of_decide_eq_true e) h)
  | .tup xs, e => by unfold D.closed at e ⊢; exact closedL_mono h e
  | .lst xs, e => by unfold D.closed at e ⊢; exact closedL_mono h e
  | .dct xs, e => by unfold D.closed at e ⊢; exact closedK_mono h e
  | .dcn xs, e => by unfold D.closed at e ⊢; exact closedK_mono h e
  | .lck d, e => by unfold D.closed at e ⊢; exact closed_mono h e
  | .tux xs, e => by unfold D.closed at e ⊢; exact closedL_mono h e
  | .non, _ => rfl
  | .bl _, _ => rfl
  | .int _, _ => rfl
  | .str _, _ => rfl
  | .fn _, _ => rfl
  | .ty _, _ => rfl
theorem closedL_mono {n m : Nat} (h : n ≤ m) : ∀ {d : List D}, closedL n d = true → closedL m d = true
  | [], _ => rfl
  | a :: r, e => by
    unfold closedL at e ⊢
    rw [Bool.and_eq_true] at e ⊢
    exact ⟨closed_mono h e.1, closedL_mono h e.2⟩
theorem closedK_mono {n m : Nat} (h : n ≤ m) : ∀ {d : List (D × D)}, closedK n d = true → closedK m d = true
  | [], _ => rfl
  | (a, b) :: r, e => by
    unfold closedK at e ⊢
    rw [Bool.and_eq_true, Bool.and_eq_true] at e ⊢
    exact ⟨⟨closed_mono h e.1.1, closed_mono h e.1.2⟩, closedK_mono h e.2⟩
end
theorem closedL_app {n : Nat} : ∀ {a b : List D}, closedL n a = true → closedL n b = true → closedL n (a ++ b) = true
  | [], b, _, h => h
  | x :: a, b, e, h => by
    unfold closedL at e
    rw [Bool.and_eq_true] at e
    show closedL n (x :: (a ++ b)) = true
    unfold closedL
    rw [e.1, closedL_app e.2 h]; rfl
theorem sane_app {S : Sto} {d : D} (h : Sane S) (hd : D.closed (S.length + 1) d = true) : Sane (S ++ [d]) := by
  unfold Sane
  rw [List.length_append]
  refine closedL_app (closedL_mono (Nat.le_add_right _ _) h) ?_
  show closedL (S.length + 1) [d] = true
  unfold closedL closedL
  rw [hd]; rfl
section
variable {S : Sto} {δ : Sl} {QD : D → Sto → Prop} {N B C : Sl → Sto → Prop} {T : D → Sto → Prop}
theorem o_get {k : Nat} {q v : D} {kvs : List (D × D)} (h : S[k]? = some (.dct kvs)) (hq : isKey q = true) (e : lookD kvs q = some v) (f : QD v S) : (Res.lift (gGet S (.ptr k) q) S).post QD :=
  p_lift (by
    have hd : deref S (.ptr k) = .dct kvs := by
      unfold deref
      dsimp only
      rw [show S.getD k .non = .dct kvs by rw [List.getD_eq_getElem?_getD, h]; rfl]
    unfold gGet
    rw [if_pos hq, hd]
    exact e) f
theorem s_put {d k v : RE} (h : (v δ S).post fun z S1 => (d δ S1).post fun x S2 => (k δ S2).post fun y S3 => ∃ n kvs, x = .ptr n ∧ S3[n]? = some (.dct kvs) ∧ isKey y = true ∧ kvs.length < sizeLine ∧ N δ (S3.set n (.dct (putD kvs y z)))) : (sPut d k v δ S).post N T B C :=
  p_out (h.mono fun z S1 q => p_out (q.mono fun x S2 q => p_out (q.mono fun y S3 ⟨n, kvs, e1, e2, e3, e4, q'⟩ => by
    subst e1
    dsimp only
    rw [e2]
    dsimp only
    rw [if_pos (by rw [e3, decide_eq_true e4]; rfl)]
    exact q')))
theorem p_pairs_nil {Q : List (D × D) → Sto → Prop} (h : Q [] S) : (rPairs [] δ S).post Q := h
theorem p_pairs {k v : RE} {r : List (RE × RE)} {Q : List (D × D) → Sto → Prop} (h : (k δ S).post fun x S1 => (v δ S1).post fun y S2 => (rPairs r δ S2).post fun ps S3 => Q ((x, y) :: ps) S3) : (rPairs ((k, v) :: r) δ S).post Q := by
  unfold rPairs
  exact p_bind (h.mono fun x S1 q => p_bind (q.mono fun y S2 q => p_bind (q.mono fun ps S3 q => q)))
theorem p_disp {ps : List (RE × RE)} (h : (rPairs ps δ S).post fun kvs S1 => (kvs.all (fun p => isKey p.1) && decide (kvs.length ≤ 15)) = true ∧ QD (.dct (mergeD [] kvs)) S1) : (rDisp ps δ S).post QD := p_bind (h.mono fun kvs S1 q => by rw [if_pos q.1]; exact q.2)
end
/-- a def gives away what it made last -/
theorem m_give {n : Nat} {b : RS} {ds : List D} {S : Sto} {u : D} (hS : Sane S) (ho : u.owned = true) (hc : D.closed S.length u = true)
    (h : (b (ds.map some ++ List.replicate (n - ds.length) none) S).post NoS (fun z S1 => z = .ptr S.length ∧ S1 = S ++ [u]) NoS NoS) : mDef n b ds S = .ok (.ptr S.length) (S ++ [u]) := by
  unfold mDef
  cases q : b (ds.map some ++ List.replicate (n - ds.length) none) S with
  | rt d S1 =>
    rw [q] at h
    obtain ⟨rfl, rfl⟩ : d = .ptr S.length ∧ S1 = S ++ [u] := h
    dsimp only
    have e1 : D.closed S.length (.ptr S.length) = false := by unfold D.closed; exact decide_eq_false (Nat.lt_irrefl _)
    rw [e1]
    show giveD S.length (.ptr S.length) (S ++ [u]) = _
    unfold giveD
    dsimp only
    rw [show (S ++ [u])[S.length]? = some u by rw [List.getElem?_append_right (Nat.le_refl _), Nat.sub_self]; rfl]
    dsimp only
    rw [List.take_left', ho, hc, show closedL S.length S = true from hS, decide_eq_true (Nat.le_refl _)]
    · rfl
    · rfl
  | _ => rw [q] at h; exact h.elim
theorem m_defR {n : Nat} {b : RS} {ds : List D} {S : Sto} {Q : D → Sto → Prop} (h : (b (ds.map some ++ List.replicate (n - ds.length) none) S).post NoS (fun z S1 => S1.length = S.length ∧ Sane S1 ∧ D.closed S.length z = true ∧ Q z S1) NoS NoS) : (mDef n b ds S).post Q :=
  m_def (h.mono (fun _ _ z => z.elim) (fun z S1 ⟨e1, e2, e3, e4⟩ => by
    have e : S1.take S.length = S1 := by rw [← e1, List.take_length]
    rw [e, e3, ← e1, show closedL S1.length S1 = true from e2]
    exact ⟨rfl, e4⟩) (fun _ _ z => z) (fun _ _ z => z))
section
variable {δ : Sl} {S : Sto} {g : RG} {t : RB} {e : RE} {b : RS} {x : D} {xs : List D} {Q : List D → Sto → Prop} {N B C : Sl → Sto → Prop} {T : D → Sto → Prop}
theorem p_lc_nil (h : Q [] S) : (lcL g t e [] δ S).post Q := h
theorem p_lc_cons (h : (g x δ S).post fun δ1 S1 => (t δ1 S1).post fun k S2 => (k = true → (e δ1 S2).post fun y S3 => (lcL g t e xs δ S3).post fun ys S4 => Q (y :: ys) S4) ∧ (k = false → (lcL g t e xs δ S2).post Q)) : (lcL g t e (x :: xs) δ S).post Q := by
  unfold lcL
  refine p_bind (h.mono fun δ1 S1 q => p_bind (q.mono fun k S2 q => ?_))
  cases k with
  | true =>
    rw [if_pos rfl]
    exact p_bind ((q.1 rfl).mono fun y S3 q => p_bind (q.mono fun ys S4 q => q))
  | false => exact q.2 rfl
theorem s_for_nil (h : N δ S) : (forL g b [] δ S).post N T B C := h
end
/-- S' is S but at k -/
structure But (k : Nat) (S S' : Sto) : Prop where
  len : S'.length = S.length
  at_ : ∀ j, j ≠ k → S'[j]? = S[j]?
  sane : Sane S'
theorem But.trans {k : Nat} {S S1 S2 : Sto} (a : But k S S1) (b : But k S1 S2) : But k S S2 := ⟨b.len.trans a.len, fun j hj => (b.at_ j hj).trans (a.at_ j hj), b.sane⟩
end DL

set_option Elab.async false
set_option linter.all false
set_option maxRecDepth 100000
set_option maxHeartbeats 4000000
set_option autoImplicit false
/-! Plain part: texts by their signs. -/
namespace DL
open PySem L2
/-- the text of these signs -/
def mk (cs : List Nat) : Str := ⟨cs.toArray⟩
theorem mk_of (w : Str) : w = mk w.cps.toList := by unfold mk; simp
theorem mk_len (cs : List Nat) : (mk cs).length = cs.length := by show cs.toArray.size = _; simp
theorem mk_list (cs : List Nat) : (mk cs).cps.toList = cs := by unfold mk; simp
theorem mk_inj {a b : List Nat} (h : mk a = mk b) : a = b := by
  have := congrArg (fun z : Str => z.cps.toList) h
  rwa [mk_list, mk_list] at this
theorem mk_beq (a b : List Nat) : (mk a == mk b) = decide (a = b) := by
  by_cases h : a = b
  · subst h; rw [beq_self_eq_true, decide_eq_true rfl]
  · rw [decide_eq_false h]
    exact beq_eq_false_iff_ne.mpr fun z => h (mk_inj z)
theorem cut_tail (cs : List Nat) : cutS (mk cs) (some 1) none = mk (cs.drop 1) := by
  unfold cutS
  rw [mk_list, mk_len]
  have e : HT.sIx cs.length 0 (some 1) = min 1 cs.length := HT.sIx_nat _ _ 1
  rw [e]
  show mk _ = mk _
  congr 1
  rw [HT.sIx_none]
  rcases cs with _ | ⟨a, r⟩
  · rfl
  · simp
theorem cut_head (cs : List Nat) : cutS (mk cs) none (some 1) = mk (cs.take 1) := by
  unfold cutS
  rw [mk_list, mk_len]
  have e : HT.sIx cs.length cs.length (some 1) = min 1 cs.length := HT.sIx_nat _ _ 1
  rw [e]
  show mk _ = mk _
  congr 1
  rw [HT.sIx_none]
  rcases cs with _ | ⟨a, r⟩
  · rfl
  · simp
/-- signs that a text may have -/
def Fine (cs : List Nat) : Prop := ∀ c ∈ cs, c < 128
theorem Fine.ok {cs : List Nat} (h : Fine cs) : PyData.strOk (mk cs) = true := by
  unfold PyData.strOk mk
  rw [Array.all_eq_true']
  intro c hc
  have := h c (by simpa using hc)
  exact decide_eq_true (by omega)
theorem Fine.drop {cs : List Nat} (h : Fine cs) (n : Nat) : Fine (cs.drop n) := fun c hc => h c (List.mem_of_mem_drop hc)
theorem Fine.take {cs : List Nat} (h : Fine cs) (n : Nat) : Fine (cs.take n) := fun c hc => h c (List.mem_of_mem_take hc)
theorem starts_dash (cs : List Nat) : Txt.startswith (mk cs) "-" = (cs.head? == some 45) := by
  have e : ("-" : Str) = mk [45] := by kernel_rfl
  rw [e]
  unfold Txt.startswith Builtin.Str.subAt
  rw [mk_len, mk_len]
  rcases cs with _ | ⟨a, r⟩
  · rfl
  · have h1 : decide (0 + [45].length ≤ (a :: r).length) = true := decide_eq_true (by simp)
    rw [h1, Bool.true_and]
    have h2 : (mk (a :: r)).cps.extract 0 (0 + [45].length) = #[a] := by unfold mk; simp
    rw [h2]
    show (#[a] == #[45]) = (some a == some 45)
    by_cases z : a = 45
    · subst z; rfl
    · rw [beq_eq_false_iff_ne.mpr (fun y => z (by simpa using y)), beq_eq_false_iff_ne.mpr (fun y => z (by simpa using y))]
section
variable {δ : Sl} {S : Sto} {QD : D → Sto → Prop} {QO : Option Int → Sto → Prop} {a : RE} {l h : RO}
theorem p_onone (q : QO none S) : (oNone δ S).post QO := q
theorem p_osome (q : (a δ S).post fun x S1 => ∃ i, x = .int i ∧ QO (some i) S1) : (oSome a δ S).post QO := p_bind (q.mono fun x S1 ⟨i, e, q'⟩ => by subst e; exact q')
theorem p_cutS (q : (a δ S).post fun x S1 => (l δ S1).post fun i S2 => (h δ S2).post fun j S3 => ∃ z, x = .str z ∧ z.length ≤ sizeLine ∧ QD (.str (cutS z i j)) S3) : (rCut a l h δ S).post QD :=
  p_bind (q.mono fun x S1 q => p_bind (q.mono fun i S2 q => p_bind (q.mono fun j S3 ⟨z, e, e2, q'⟩ => by
    subst e
    show (if z.length ≤ sizeLine then Res.ok (D.str (cutS z i j)) S3 else .stuck).post QD
    rw [if_pos e2]; exact q')))
theorem p_cutL (q : (a δ S).post fun x S1 => (l δ S1).post fun i S2 => (h δ S2).post fun j S3 => ∃ z, x = .lst z ∧ QD (.lst (cutD z i j)) S3) : (rCut a l h δ S).post QD :=
  p_bind (q.mono fun x S1 q => p_bind (q.mono fun i S2 q => p_bind (q.mono fun j S3 ⟨z, e, q'⟩ => by
    subst e
    exact q')))
theorem o_len {z : Str} (e : z.length ≤ sizeLine) (q : QD (.int z.length) S) : (Res.lift (gLen S [.str z]) S).post QD := p_lift (by unfold gLen deref; dsimp only; rw [if_pos e]) q
theorem o_in1 {c : Nat} {z : Str} (q : QD (.bl (decide (c ∈ z.cps.toList))) S) : (Res.lift (gIn1 S (.str ⟨#[c]⟩) (.str z)) S).post QD := p_lift (by unfold gIn1 deref; rfl) q
theorem o_notIn1 {c : Nat} {z : Str} (q : QD (.bl (!decide (c ∈ z.cps.toList))) S) : (Res.lift (gNotIn1 S (.str ⟨#[c]⟩) (.str z)) S).post QD := p_lift (by unfold gNotIn1 gIn1 deref; rfl) q
theorem o_ixS {z : Str} {i : Int} {c : Nat} (e : z.length ≤ sizeLine) (e2 : atI z.cps.toList i = some c) (q : QD (.str ⟨#[c]⟩) S) : (Res.lift (gIx S (.str z) (.int i)) S).post QD := p_lift (by unfold gIx deref; dsimp only; rw [if_pos e, e2]; rfl) q
theorem o_addS {x y : Str} (e : x.length + y.length ≤ sizeLine) (q : QD (.str (x ++ y)) S) : (Res.lift (gAdd S (.str x) (.str y)) S).post QD := p_lift (by unfold gAdd deref; dsimp only; rw [if_pos e]) q
end
/-- the texts of single signs -/
def sgs (cs : List Nat) : List D := cs.map fun c => .str ⟨#[c]⟩
theorem walk_mk (cs : List Nat) : ((mk cs).cps.toList.map fun c => D.str ⟨#[c]⟩) = sgs cs := by rw [mk_list]; rfl
theorem figs : ("0123456789" : Str).cps.toList = [48, 49, 50, 51, 52, 53, 54, 55, 56, 57] := by kernel_rfl
theorem in_figs (c : Nat) : c ∈ ("0123456789" : Str).cps.toList ↔ 48 ≤ c ∧ c ≤ 57 := by
  rw [figs]
  simp only [List.mem_cons, List.not_mem_nil, or_false]
  omega
theorem toPys_strs {S : Sto} : ∀ xs : List Str, toPys S (xs.map .str) = some (xs.map .str)
  | [] => rfl
  | i :: r => by unfold List.map toPys toPy; rw [toPys_strs r]
theorem eqvAll_strs : ∀ xs ys : List Str, PyData.eqvAll (xs.map .str) (ys.map .str) = decide (xs = ys)
  | [], [] => by simp [PyData.eqvAll]
  | [], _ :: _ => by simp [PyData.eqvAll]
  | _ :: _, [] => by simp [PyData.eqvAll]
  | a :: r, b :: q => by simp [PyData.eqvAll, PyData.eqv, eqvAll_strs r q, Bool.beq_eq_decide_eq]
theorem lay_strs : ∀ xs : List Str, (∀ x ∈ xs, PyData.strOk x = true) → PyData.canLayAll0 (xs.map .str) = true ∧ PyData.depthAll (xs.map .str) = 0
  | [], _ => ⟨by simp [PyData.canLayAll0], by simp [PyData.depthAll]⟩
  | a :: r, h => by
    obtain ⟨h1, h2⟩ := lay_strs r fun x hx => h x (List.mem_cons_of_mem _ hx)
    exact ⟨by simp [PyData.canLayAll0, PyData.canLay0, h1, h a List.mem_cons_self], by simp [PyData.depthAll, PyData.depth, h2]⟩
theorem shaped_strs {xs : List Str} (h : ∀ x ∈ xs, PyData.strOk x = true) : SeqAt.shaped (.list (xs.map .str)) = true := by
  obtain ⟨h1, h2⟩ := lay_strs xs h
  unfold SeqAt.shaped; simp [PyData.canLay0, PyData.depth, h1, h2]
theorem o_eqStrs {S : Sto} {xs ys : List Str} {Q : D → Sto → Prop} (h1 : ∀ x ∈ xs, PyData.strOk x = true) (h2 : ∀ x ∈ ys, PyData.strOk x = true) (h : Q (.bl (decide (xs = ys))) S) : (Res.lift (gEq S (.lst (xs.map .str)) (.lst (ys.map .str))) S).post Q :=
  o_eqg (u := .list (xs.map .str)) (v := .list (ys.map .str)) (by show (toPys S (xs.map .str)).map PyData.list = _; rw [toPys_strs]; rfl) (by show (toPys S (ys.map .str)).map PyData.list = _; rw [toPys_strs]; rfl) (shaped_strs h1) (shaped_strs h2) (by simpa [PyData.eqv, eqvAll_strs] using h)
theorem o_neStrs {S : Sto} {xs ys : List Str} {Q : D → Sto → Prop} (h1 : ∀ x ∈ xs, PyData.strOk x = true) (h2 : ∀ x ∈ ys, PyData.strOk x = true) (h : Q (.bl (!decide (xs = ys))) S) : (Res.lift (gNe S (.lst (xs.map .str)) (.lst (ys.map .str))) S).post Q :=
  o_neg_ (u := .list (xs.map .str)) (v := .list (ys.map .str)) (by show (toPys S (xs.map .str)).map PyData.list = _; rw [toPys_strs]; rfl) (by show (toPys S (ys.map .str)).map PyData.list = _; rw [toPys_strs]; rfl) (shaped_strs h1) (shaped_strs h2) (by simpa [PyData.eqv, eqvAll_strs] using h)
def sg (c : Nat) : Str := ⟨#[c]⟩
theorem sgs_eq (cs : List Nat) : sgs cs = (cs.map sg).map D.str := by unfold sgs; rw [List.map_map]; rfl
theorem sg_inj {a b : Nat} (h : sg a = sg b) : a = b := by
  have := congrArg (fun z : Str => z.cps.toList) h
  simpa [sg] using this
theorem sg_ok {cs : List Nat} (h : Fine cs) : ∀ x ∈ cs.map sg, PyData.strOk x = true := by
  intro x hx
  obtain ⟨c, hc, rfl⟩ := List.mem_map.mp hx
  exact Fine.ok (cs := [c]) fun d hd => by rw [List.mem_singleton.mp hd]; exact h c hc
theorem sgs_mem {x : D} {cs : List Nat} (h : x ∈ sgs cs) : ∃ c ∈ cs, x = .str ⟨#[c]⟩ := by
  obtain ⟨c, h1, h2⟩ := List.mem_map.mp h
  exact ⟨c, h1, h2.symm⟩
theorem sgs_filter (p : Nat → Bool) (q : D → Bool) (h : ∀ c, q (.str ⟨#[c]⟩) = p c) : ∀ cs : List Nat, (sgs cs).filter q = sgs (cs.filter p)
  | [] => rfl
  | c :: r => by
    show List.filter q (.str ⟨#[c]⟩ :: sgs r) = _
    rw [List.filter_cons, h, List.filter_cons, sgs_filter p q h r]
    cases p c <;> rfl
theorem ix_figs {S : Sto} {c : Nat} (h : 48 ≤ c ∧ c ≤ 57) : gIndexS S (.str "0123456789") [.str ⟨#[c]⟩] = some (.int ((c - 48 : Nat) : Int)) := by
  rcases (by omega : c = 48 ∨ c = 49 ∨ c = 50 ∨ c = 51 ∨ c = 52 ∨ c = 53 ∨ c = 54 ∨ c = 55 ∨ c = 56 ∨ c = 57) with e | e | e | e | e | e | e | e | e | e <;> subst e <;> kernel_rfl
theorem asBls_map : ∀ bs : List Bool, asBls (bs.map .bl) = some bs
  | [] => rfl
  | b :: r => by unfold List.map asBls; rw [asBls_map r]; rfl
theorem o_all {S : Sto} {bs : List Bool} {Q : D → Sto → Prop} (h : Q (.bl (bs.all id)) S) : (Res.lift (gAll S [.lst (bs.map .bl)]) S).post Q := p_lift (by unfold gAll deref; dsimp only; rw [asBls_map]; rfl) h
theorem o_int {S : Sto} {x : Str} {n : Int} {Q : D → Sto → Prop} (e : intText? x = some n) (l : x.length ≤ 640) (h : Q (.int n) S) : (Res.lift (gInt S [.str x]) S).post Q := p_lift (by unfold gInt; dsimp only; rw [e]; dsimp only; rw [if_pos l]) h
end DL

set_option Elab.async false
set_option linter.all false
set_option maxRecDepth 100000
set_option maxHeartbeats 4000000
set_option autoImplicit false
/-! Data layer: dicts whatever their keys: get, in, store. -/
namespace DL
open PySem PySem.Spec PyProof.Rows L2

/-! ### keys -/
mutual
inductive NK (K : Fg) (H : Hp) : NestedKey → V → Prop
  | non : NK K H .none .non
  | bl (b : Bool) : NK K H (.num (if b = true then 1 else 0)) (.bl b)
  | int (i : Int) : NK K H (.num i) (.int i)
  | str (x : Str) : NK K H (.text x) (.str x)
  | tup {a : Addr} {vs : List V} {ks : List NestedKey} : SqT K H a vs → NKs K H ks vs → NK K H (.tup ks) (.ref a)
inductive NKs (K : Fg) (H : Hp) : List NestedKey → List V → Prop
  | nil : NKs K H [] []
  | cons {k : NestedKey} {v : V} {ks : List NestedKey} {vs : List V} : NK K H k v → NKs K H ks vs → NKs K H (k :: ks) (v :: vs)
end
section
variable {wd : World} {K : Fg} {mg : Str → Option Value} {F H : Hp} {α : List Addr} {S : Sto}
mutual
theorem DV.nk {v : V} : ∀ {d : D} {k : NestedKey}, DV wd K mg F α v d → keyN d = some k → Sub F H → NK K H k v
  | _, _, .non, e, _ => by cases e; exact .non
  | _, _, .bl b, e, _ => by cases e; exact .bl b
  | _, _, .int i, e, _ => by cases e; exact .int i
  | _, _, .str x, e, _ => by cases e; exact .str x
  | _, _, .tup h t, e, s => by
    rename_i ds
    unfold keyN at e
    cases q : keyNs ds with
    | none => rw [q] at e; cases e
    | some ys => rw [q] at e; cases e; exact .tup (s.sqT h.1) (DVs.nk t q s)
  | _, _, .lst _ _, e, _ => by cases e
  | _, _, .tux _ _, e, _ => by cases e
  | _, _, .ptr _, e, _ => by cases e
  | _, _, .fn _, e, _ => by cases e
  | _, _, .ty _, e, _ => by cases e
theorem DVs.nk {vs : List V} : ∀ {ds : List D} {ks : List NestedKey}, DVs wd K mg F α vs ds → keyNs ds = some ks → Sub F H → NKs K H ks vs
  | _, _, .nil, e, _ => by cases e; exact .nil
  | _, _, .cons h t, e, s => by
    rename_i d _ ds
    unfold keyNs at e
    cases q1 : keyN d with
    | none => rw [q1] at e; cases e
    | some x =>
      cases q2 : keyNs ds with
      | none => rw [q1, q2] at e; cases e
      | some xs => rw [q1, q2] at e; cases e; exact .cons (DV.nk h q1 s) (DVs.nk t q2 s)
end
end
section
variable {X : Cx} {pins : List (Addr × Obj)} {σ : L2.St} {H : Hp} {s : Shared}
mutual
theorem NK.is (I : Inv X pins σ H s) : ∀ {k : NestedKey} {v : V} {u : Value}, NK X.K H k v → RelV v u → NestedIs s.heap k u
  | _, _, u, .non, r => by have : u = Value.none := r; subst this; exact .none
  | _, _, u, .bl b, r => by have : u = Value.bool b := r; subst this; exact .bool rfl
  | _, _, u, .int i, r => by obtain ⟨t, e⟩ := (show ∃ t, u = Value.int i t from r); subst e; exact .int _ _
  | _, _, u, .str x, r => by obtain ⟨t, e⟩ := (show ∃ t, u = Value.str x t from r); subst e; exact .text _ _
  | _, _, u, .tup (a := a) h t, r => by
    have : u = Value.ref a := r
    subst this
    obtain ⟨its, rv, ⟨o, ho, hc, n, hd⟩, _⟩ := I.tuple h
    exact .tup ho hc hd (by simpa using NKs.are I t rv)
theorem NKs.are (I : Inv X pins σ H s) : ∀ {ks : List NestedKey} {vs : List V} {us : List Value}, NKs X.K H ks vs → Vals vs us → NestedAll s.heap ks us
  | _, _, _, .nil, r => by cases r; exact .nil
  | _, _, _, .cons h t, r => by
    cases r with
    | cons r1 r2 => exact .cons (NK.is I h r1) (NKs.are I t r2)
end
end

/-! ### what a dict holds, by values -/
def lookV (xs : List (NestedKey × Addr × V)) (k : NestedKey) : Option V := (xs.find? fun x => decide (x.1 = k)).map (·.2.2)
def putV1 (k : NestedKey) (v : V) (x : NestedKey × Addr × V) : NestedKey × Addr × V := if x.1 = k then (x.1, x.2.1, v) else x
def putV (xs : List (NestedKey × Addr × V)) (k : NestedKey) (a : Addr) (v : V) : List (NestedKey × Addr × V) := if (lookV xs k).isSome then xs.map (putV1 k v) else xs ++ [(k, a, v)]
theorem NV.look {xs : List (NestedKey × Addr × V)} {vs : List (NestedKey × Addr × Value)} (h : NV xs vs) (k : NestedKey) : RelO (lookV xs k) ((atKey vs k).map (·.2)) := by
  unfold NV at h
  induction h with
  | nil => trivial
  | @cons a b l₁ l₂ r t ih =>
    unfold lookV atKey at ih ⊢
    rw [List.find?_cons, List.find?_cons, ← r.1]
    by_cases q : a.1 = k
    · rw [decide_eq_true q]
      exact r.2.2
    · rw [decide_eq_false q]
      exact ih
theorem NV.isSome {xs : List (NestedKey × Addr × V)} {vs : List (NestedKey × Addr × Value)} (h : NV xs vs) (k : NestedKey) : (lookV xs k).isSome = (atKey vs k).isSome := by
  have := (h.look k).isSome_eq
  rw [Option.isSome_map] at this
  exact this
theorem NV.put {xs : List (NestedKey × Addr × V)} {vs : List (NestedKey × Addr × Value)} (h : NV xs vs) (k : NestedKey) (a : Addr) {v : V} {u : Value} (r : RelV v u) : NV (putV xs k a v) (storedH vs k a u) := by
  have e := h.isSome k
  unfold putV storedH
  rw [e]
  by_cases q : (atKey vs k).isSome = true
  · rw [if_pos q, if_pos q]
    clear q e
    unfold NV at h ⊢
    induction h with
    | nil => exact .nil
    | @cons x y l₁ l₂ z t ih =>
      refine .cons ?_ ih
      unfold putV1 putAt
      rw [← z.1]
      by_cases c : x.1 = k
      · rw [if_pos c, if_pos c]; exact ⟨rfl, z.2.1, r⟩
      · rw [if_neg c, if_neg c]; exact z
  · rw [if_neg q, if_neg q]
    exact Paired.snoc h ⟨rfl, rfl, r⟩
theorem NV.length {xs : List (NestedKey × Addr × V)} {vs : List (NestedKey × Addr × Value)} (h : NV xs vs) : xs.length = vs.length := Paired.length h
theorem NV.keys {xs : List (NestedKey × Addr × V)} {vs : List (NestedKey × Addr × Value)} (h : NV xs vs) : xs.map (·.1) = vs.map (·.1) := by
  unfold NV at h
  induction h with
  | nil => rfl
  | cons r _ ih => rw [List.map_cons, List.map_cons, ih, r.1]
theorem putV_length (xs : List (NestedKey × Addr × V)) (k : NestedKey) (a : Addr) (v : V) : (putV xs k a v).length ≤ xs.length + 1 := by
  unfold putV
  split
  · rw [List.length_map]; omega
  · rw [List.length_append]; exact Nat.le_refl _
/-- every key is a key -/
def NKeys (K : Fg) (H : Hp) (xs : List (NestedKey × Addr × V)) : Prop := ∀ x ∈ xs, NK K H x.1 (.ref x.2.1) ∧ x.1.depth ≤ 8
/-- at a stands a dict xs of tuple keys; the empty one is any -/
def NAt (w : World) (H : Hp) (a : Addr) (xs : List (NestedKey × Addr × V)) : Prop := Rd H a (dN w a xs) ∨ (xs = [] ∧ Rd H a (.dK []))
/-- .. that may be written -/
def NWr (w : World) (H : Hp) (a : Addr) (xs : List (NestedKey × Addr × V)) : Prop := H a = some (dN w a xs) ∨ (xs = [] ∧ H a = some (.dK []))
theorem NWr.at {w : World} {H : Hp} {a : Addr} {xs : List (NestedKey × Addr × V)} (h : NWr w H a xs) : NAt w H a xs := h.imp .inl fun ⟨e, q⟩ => ⟨e, .inl q⟩
theorem key_id {P : Program} {w : World} {x : NestedKey × Addr × Value} : entryOfKey (nestedKind P w) x = ⟨x.1.hash w, .ref x.2.1, x.2.2⟩ := rfl
theorem n_at {X : Cx} {pins : List (Addr × Obj)} {σ : L2.St} {H : Hp} {s : Shared} {a : Addr} {xs : List (NestedKey × Addr × V)} (I : Inv X pins σ H s) (e : NAt X.w H a xs) (hk : NKeys X.K H xs) :
    xs.length ≤ sizeLine ∧ (a == sysModules) = false ∧ ∃ vs, NV xs vs ∧ s.heap.DictOfH (nestedKind X.prog X.w) a vs := by
  rcases e with e | ⟨rfl, e⟩
  · obtain ⟨⟨h1, h2, h3, vs, h4, o, es, ep, h5, h6, h7, h8⟩, _⟩ := (show ObjOk X.prog X.w H s.heap a (dN X.w a xs) from e.ok I.hok)
    refine ⟨h2, h1, vs, h4, o, es, ep, h5, h6, h7, h8, fun x hx => ?_, by rw [← h4.keys]; exact h3⟩
    obtain ⟨i, hi⟩ := List.mem_iff_getElem?.mp hx
    have hl := h4.length
    obtain ⟨y, hy⟩ : ∃ y, xs[i]? = some y := ⟨_, List.getElem?_eq_getElem (by rw [hl]; exact (List.getElem?_eq_some_iff.mp hi).1)⟩
    obtain ⟨z, hz, q1, q2, _⟩ := paired_get h4 hy
    rw [hi] at hz
    cases hz
    obtain ⟨k1, k2⟩ := hk y (List.mem_of_getElem? hy)
    rw [← q1, ← q2]
    exact ⟨NK.is I k1 rfl, k2⟩
  · obtain ⟨h1, h2, vs, kv, o, es, ep, h3, h4, h5, h6⟩ := dk_rd I.hok e
    refine ⟨Nat.zero_le _, h2, [], .nil, o, es, ep, h3, h4, h5, ?_, (fun _ h => (nomatch h)), List.nodup_nil⟩
    have l1 := h6.2.1.length
    have l2 : ([] : List (Key × V)).length = vs.length := Paired.length kv
    rw [← l2] at l1
    exact List.eq_nil_of_length_eq_zero l1
section
variable {X : Cx} {pins : List (Addr × Obj)} {σ : L2.St} {H : Hp} {s : Shared} {a b : Addr} {xs : List (NestedKey × Addr × V)} {k : NestedKey} {v d : V} {u r : Value} {A : Around} {E : Value → Shared → Prop}
theorem room8 (hu : A.units + 10 < cLine) : (nestedKind X.prog X.w).room A.in1 := by
  show A.units + 1 + 8 < cLine
  omega
theorem n_getItem {Q : Value → Shared → Prop} (hu : A.units + 10 < cLine) (I : Inv X pins σ H s) (e : NAt X.w H a xs) (hk : NKeys X.K H xs) (kk : NK X.K H k (.ref b)) (hd : k.depth ≤ 8) (l : lookV xs k = some v) (h : ∀ w' s', Inv X pins σ H s' → RelV v w' → Q w' s') :
    wpAny (model X.prog X.w) A (getItem (.ref a) (.ref b)) Q E s := by
  obtain ⟨_, h2, vs, rel, dd⟩ := n_at I e hk
  obtain ⟨w', hw, rw'⟩ := RelO.some_of (v := v) (o := (atKey vs k).map (·.2)) (by rw [← l]; exact rel.look k)
  obtain ⟨p, hp, hp2⟩ := Option.map_eq_some_iff.mp hw
  refine wpAny_getItem_heap (knd := nestedKind X.prog X.w) (room8 hu) (k := k) ⟨NK.is I kk rfl, hd⟩ dd hp ?_
  rw [hp2]
  exact h w' _ (I.tok _) rw'
theorem n_in {Q : Value → Shared → Prop} (hu : A.units + 10 < cLine) (I : Inv X pins σ H s) (e : NAt X.w H a xs) (hk : NKeys X.K H xs) (kk : NK X.K H k (.ref b)) (hd : k.depth ≤ 8) (h : ∀ s', Inv X pins σ H s' → Q (.bool (lookV xs k).isSome) s') :
    wpAny (model X.prog X.w) A (compareOp .In (.ref b) (.ref a)) Q E s := by
  obtain ⟨_, h2, vs, rel, dd⟩ := n_at I e hk
  refine wpAny_in_heap (knd := nestedKind X.prog X.w) (room8 hu) (k := k) ⟨NK.is I kk rfl, hd⟩ h2 dd ?_
  rw [← rel.isSome k]
  exact h _ (I.tok _)
theorem n_notIn {Q : Value → Shared → Prop} (hu : A.units + 10 < cLine) (I : Inv X pins σ H s) (e : NAt X.w H a xs) (hk : NKeys X.K H xs) (kk : NK X.K H k (.ref b)) (hd : k.depth ≤ 8) (h : ∀ s', Inv X pins σ H s' → Q (.bool (!(lookV xs k).isSome)) s') :
    wpAny (model X.prog X.w) A (compareOp .NotIn (.ref b) (.ref a)) Q E s := by
  obtain ⟨_, h2, vs, rel, dd⟩ := n_at I e hk
  refine wpAny_notIn_heap (knd := nestedKind X.prog X.w) (room8 hu) (k := k) ⟨NK.is I kk rfl, hd⟩ h2 dd ?_
  rw [← rel.isSome k]
  exact h _ (I.tok _)
theorem n_get2 {Q : Value → Shared → Prop} (hu : A.units + 10 < cLine) (I : Inv X pins σ H s) (e : NAt X.w H a xs) (hk : NKeys X.K H xs) (kk : NK X.K H k (.ref b)) (hd : k.depth ≤ 8) (rd : RelV d r) (h : ∀ w' s', Inv X pins σ H s' → RelV ((lookV xs k).getD d) w' → Q w' s') :
    wpAny (model X.prog X.w) A (call (.builtin "dict.get") [.ref a, .ref b, r]) Q E s := by
  obtain ⟨_, h2, vs, rel, dd⟩ := n_at I e hk
  exact call_meetsIn PySem.F.slot_dict_get dd.typeIs PySem.F.entry_dict_get (PySem.F.args_dict_get_3 _ _ _) (meetsH_dict_get_default (nestedKind X.prog X.w) a b h2 r) ⟨room8 hu, k, vs, ⟨NK.is I kk rfl, hd⟩, dd, h _ _ (I.tok _) ((rel.look k).getD rd)⟩
theorem n_setItem {Q : Unit → Shared → Prop} (hu : A.units + 10 < cLine) (I : Inv X pins σ H s) (e : NWr X.w H a xs) (hk : NKeys X.K H xs) (hz : xs.length < sizeLine) (kk : NK X.K H k (.ref b)) (hd : k.depth ≤ 8) (rv : RelV v r) (h : ∀ s', Inv X pins σ (upd H a (dN X.w a (putV xs k b v))) s' → Q () s') :
    wpAny (model X.prog X.w) A (setItem (.ref a) (.ref b) r) Q E s := by
  obtain ⟨h1, h2, vs, rel, dd⟩ := n_at I e.at hk
  have hz' : vs.length ≤ sizeLine := by rw [← rel.length]; exact h1
  refine wpAny_setItem_heap (knd := nestedKind X.prog X.w) (hsz := hz') (room8 hu) (k := k) ⟨NK.is I kk rfl, hd⟩ dd fun h' dd' hs => h _ ?_
  obtain ⟨q, es, ep, hq, g2, g3, g4, _, g5⟩ := dd'
  refine d_write I (by rcases e with e | ⟨_, e⟩ <;> rw [e] <;> exact True.intro) hs ⟨q, hq⟩ ?_
  have rel' := rel.put k b rv
  refine ⟨⟨h2, by have := putV_length xs k b v; omega, by rw [rel'.keys]; exact g5, _, rel', q, es, ep, hq, g2, g3, g4⟩, ⟨q, hq⟩, fun z1 z2 ⟨p1, p2, p3, vs', p4, o', es', ep', p5, p6⟩ st => ⟨p1, p2, p3, vs', p4, o', es', ep', st _ p5, p6⟩⟩
end
/-- what the dict at a holds at y, whatever its keys -/
def UGet (w : World) (K : Fg) (H : Hp) (a : Addr) (y : V) (o : Option V) : Prop := DGet H a y o ∨ ∃ xs k b, NAt w H a xs ∧ NKeys K H xs ∧ y = .ref b ∧ NK K H k (.ref b) ∧ k.depth ≤ 8 ∧ o = lookV xs k
/-- the heap behind a[y] = v -/
def UPut (w : World) (K : Fg) (H : Hp) (a : Addr) (y v : V) (H' : Hp) : Prop := DPut H a y v H' ∨ ∃ xs k b, NWr w H a xs ∧ NKeys K H xs ∧ y = .ref b ∧ NK K H k (.ref b) ∧ k.depth ≤ 8 ∧ xs.length < sizeLine ∧ H' = upd H a (dN w a (putV xs k b v))
section
variable {X : Cx} {pins : List (Addr × Obj)} {σ : L2.St} {H : Hp} {s : Shared} {a : Addr} {y v d : V} {u r : Value} {o : Option V} {A : Around} {E : Value → Shared → Prop}
theorem u_typeIs (I : Inv X pins σ H s) (g : UGet X.w X.K H a y o) : s.TypeIs (.ref a) "dict" ∧ (∀ b, Value.ref a = .ref b → ∃ ob, s.heap.get? b = some ob ∧ ob.dict = none) := by
  rcases g with g | ⟨xs, k, b, e, hk, _⟩
  · exact ⟨dict_typeIs I g, dict_noDict I g⟩
  · obtain ⟨_, _, vs, _, dd⟩ := n_at I e hk
    refine ⟨dd.typeIs, fun b q => ?_⟩
    cases q
    obtain ⟨ob, _, _, h1, h2, _⟩ := dd
    exact ⟨ob, h1, h2.2.1⟩
theorem u_getItem {Q : Value → Shared → Prop} (hu : A.units + 10 < cLine) (I : Inv X pins σ H s) (g : UGet X.w X.K H a y (some v)) (ry : RelV y u) (h : ∀ w' s', Inv X pins σ H s' → RelV v w' → Q w' s') :
    wpAny (model X.prog X.w) A (getItem (.ref a) u) Q E s := by
  rcases g with g | ⟨xs, k, b, e, hk, rfl, kk, hd, l⟩
  · exact d_getItem (by omega) I g ry h
  · cases (show u = Value.ref b from ry)
    exact n_getItem hu I e hk kk hd l.symm h
theorem u_in {Q : Value → Shared → Prop} (hu : A.units + 10 < cLine) (I : Inv X pins σ H s) (g : UGet X.w X.K H a y o) (ry : RelV y u) (h : ∀ s', Inv X pins σ H s' → Q (.bool o.isSome) s') :
    wpAny (model X.prog X.w) A (compareOp .In u (.ref a)) Q E s := by
  rcases g with g | ⟨xs, k, b, e, hk, rfl, kk, hd, l⟩
  · exact d_in (by omega) I g ry h
  · cases (show u = Value.ref b from ry)
    subst l
    exact n_in hu I e hk kk hd h
theorem u_notIn {Q : Value → Shared → Prop} (hu : A.units + 10 < cLine) (I : Inv X pins σ H s) (g : UGet X.w X.K H a y o) (ry : RelV y u) (h : ∀ s', Inv X pins σ H s' → Q (.bool (!o.isSome)) s') :
    wpAny (model X.prog X.w) A (compareOp .NotIn u (.ref a)) Q E s := by
  rcases g with g | ⟨xs, k, b, e, hk, rfl, kk, hd, l⟩
  · exact d_notIn (by omega) I g ry h
  · cases (show u = Value.ref b from ry)
    subst l
    exact n_notIn hu I e hk kk hd h
theorem u_get2 {Q : Value → Shared → Prop} (hu : A.units + 10 < cLine) (I : Inv X pins σ H s) (g : UGet X.w X.K H a y o) (ry : RelV y u) (rd : RelV d r) (h : ∀ w' s', Inv X pins σ H s' → RelV (o.getD d) w' → Q w' s') :
    wpAny (model X.prog X.w) A (call (.builtin "dict.get") [.ref a, u, r]) Q E s := by
  rcases g with g | ⟨xs, k, b, e, hk, rfl, kk, hd, l⟩
  · exact d_get2 (by omega) I g ry rd h
  · cases (show u = Value.ref b from ry)
    subst l
    exact n_get2 hu I e hk kk hd rd h
theorem u_setItem {H' : Hp} {Q : Unit → Shared → Prop} (hu : A.units + 10 < cLine) (I : Inv X pins σ H s) (g : UPut X.w X.K H a y v H') (ry : RelV y u) (rv : RelV v r) (h : ∀ s', Inv X pins σ H' s' → Q () s') :
    wpAny (model X.prog X.w) A (setItem (.ref a) u r) Q E s := by
  rcases g with g | ⟨xs, k, b, e, hk, rfl, kk, hd, hz, rfl⟩
  · exact d_setItem (by omega) I g ry rv h
  · cases (show u = Value.ref b from ry)
    exact n_setItem hu I e hk hz kk hd rv h
end
def tUGet (X : Cx) (td ty : TE) : TE := fun σ H Q => td σ H fun x H1 => ty σ H1 fun y H2 => ∃ a v, x = .ref a ∧ UGet X.w X.K H2 a y (some v) ∧ Q v H2
def tUIn (X : Cx) (ty td : TE) : TE := fun σ H Q => ty σ H fun y H1 => td σ H1 fun x H2 => ∃ a o, x = .ref a ∧ UGet X.w X.K H2 a y o ∧ Q (.bl o.isSome) H2
def tUNotIn (X : Cx) (ty td : TE) : TE := fun σ H Q => ty σ H fun y H1 => td σ H1 fun x H2 => ∃ a o, x = .ref a ∧ UGet X.w X.K H2 a y o ∧ Q (.bl (!o.isSome)) H2
def sUPut (X : Cx) (td ty tv : TE) : TS := fun D σ H => tv σ H fun v H1 => td σ H1 fun x H2 => ty σ H2 fun y H3 => ∃ a H4, x = .ref a ∧ UPut X.w X.K H3 a y v H4 ∧ D.nx σ H4
/-- a is a dict -/
def UsD (w : World) (K : Fg) (H : Hp) (a : Addr) : Prop := IsD H a ∨ ∃ xs, NAt w H a xs ∧ NKeys K H xs
def tUGet2 (X : Cx) (td ty tx : TE) : TE := fun σ H Q => td σ H fun x H1 => ∃ a, x = .ref a ∧ UsD X.w X.K H1 a ∧ ty σ H1 fun y H2 => tx σ H2 fun z H3 => ∃ o, UGet X.w X.K H3 a y o ∧ Q (o.getD z) H3
section
variable {X : Cx} {o i e f value : Expr} {pos pos' tpos apos cpos : Pos} {td ty tv tx : TE}
theorem usd_at {pins : List (Addr × Obj)} {σ : L2.St} {H : Hp} {s : Shared} {a : Addr} (I : Inv X pins σ H s) (d : UsD X.w X.K H a) :
    s.TypeIs (.ref a) "dict" ∧ (∀ b, Value.ref a = .ref b → ∃ ob, s.heap.get? b = some ob ∧ ob.dict = none) := by
  rcases d with d | ⟨xs, e, hk⟩
  · obtain ⟨h1, h2, _⟩ := isD_at I d
    exact ⟨h1, h2⟩
  · obtain ⟨_, _, vs, _, dd⟩ := n_at I e hk
    refine ⟨dd.typeIs, fun b q => ?_⟩
    cases q
    obtain ⟨ob, _, _, h1, h2, _⟩ := dd
    exact ⟨ob, h1, h2.2.1⟩
theorem pe_uget (hu : X.A.units + 10 < cLine) (ho : PE X o td) (hi : PE X i ty) (hs : NoSl i) : PE X (.Subscript o i pos) (tUGet X td ty) := by
  refine ⟨fun pins s σ H Q I h => ?_⟩
  refine subD_of PySem.F.slot_dict_getitem.lookup hs (thn (ho.run pins s σ H _ I h) fun u s1 ⟨x, H1, I1, rx, q1⟩ => thn (hi.run pins s1 σ H1 _ I1 q1) fun iv s2 ⟨y, H2, I2, ry, a, v, ex, g, q2⟩ => ?_)
  subst ex
  obtain rfl : u = Value.ref a := rx
  exact ⟨(u_typeIs I2 g).1, u_getItem hu I2 g ry fun w' s3 I3 rw' => ⟨v, H2, I3, rw', q2⟩⟩
theorem pc_uin (hu : X.A.units + 10 < cLine) (hi : PE X i ty) (ho : PE X o td) : PC X .In i o (tUIn X ty td) := by
  refine ⟨fun pins s σ H Q I h => ?_⟩
  refine thn (hi.run pins s σ H _ I h) fun iv s1 ⟨y, H1, I1, ry, q1⟩ => thn (ho.run pins s1 σ H1 _ I1 q1) fun u s2 ⟨x, H2, I2, rx, a, ov, ex, g, q2⟩ => ?_
  subst ex
  obtain rfl : u = Value.ref a := rx
  exact u_in hu I2 g ry fun s3 I3 => ⟨.bl ov.isSome, H2, I3, rfl, q2⟩
theorem pc_unotin (hu : X.A.units + 10 < cLine) (hi : PE X i ty) (ho : PE X o td) : PC X .NotIn i o (tUNotIn X ty td) := by
  refine ⟨fun pins s σ H Q I h => ?_⟩
  refine thn (hi.run pins s σ H _ I h) fun iv s1 ⟨y, H1, I1, ry, q1⟩ => thn (ho.run pins s1 σ H1 _ I1 q1) fun u s2 ⟨x, H2, I2, rx, a, ov, ex, g, q2⟩ => ?_
  subst ex
  obtain rfl : u = Value.ref a := rx
  exact u_notIn hu I2 g ry fun s3 I3 => ⟨.bl (!ov.isSome), H2, I3, rfl, q2⟩
theorem ps_uput (hu : X.A.units + 10 < cLine) (ho : PE X o td) (hi : PE X i ty) (hv : PE X value tv) (hs : swapsWith value (some (.Subscript o i pos')) pos.line X.env = pure false) :
    PS X (.Assign [.Subscript o i pos'] value pos) (sUPut X td ty tv) := by
  refine ⟨fun pins s σ H D I h => ?_⟩
  refine wpAny_Assign_Subscript (thn (hv.run pins s σ H _ I h) fun r s1 ⟨v, H1, I1, rv, q1⟩ => thn (ho.run pins s1 σ H1 _ I1 q1) fun u s2 ⟨x, H2, I2, rx, q2⟩ => thn (hi.run pins s2 σ H2 _ I2 q2) fun iv s3 ⟨y, H3, I3, ry, a, H4, ex, g, q3⟩ => ?_) hs
  subst ex
  obtain rfl : u = Value.ref a := rx
  exact u_setItem hu I3 g ry rv fun s4 I4 => ⟨σ, H4, I4, q3⟩
theorem pe_uget2 (hu : X.A.units + 10 < cLine) (ho : PE X o td) (he : PE X e ty) (hf : PE X f tx) (m : M2 X o "get" apos e f cpos) : PE X (.Call (.Attribute o "get" apos) [e, f] [] cpos) (tUGet2 X td ty tx) := by
  refine ⟨fun pins s σ H Q I h => ?_⟩
  refine wpAny_Call_method m.base m.few m.line PySem.F.plainAttrs_dict PySem.F.slot_dict_get PySem.F.type_dict_get (thn (ho.run pins s σ H _ I h) fun u s1 ⟨x, H1, I1, rx, a, ex, d, q1⟩ => ?_)
  subst ex
  obtain rfl : u = Value.ref a := rx
  obtain ⟨t1, t2⟩ := usd_at I1 d
  refine ⟨t1, t2, ?_⟩
  rw [m.trees]
  refine Calls.callWith_builtin rfl (Calls.evalArgs_plain (Calls.spliced_cons (thn (he.run pins s1 σ H1 _ I1 q1) fun iv s2 ⟨y, H2, I2, ry, q2⟩ =>
    Calls.spliced_cons (thn (hf.run pins s2 σ H2 _ I2 q2) fun fv s3 ⟨z, H3, I3, rz, ov, g, q3⟩ => Calls.spliced_nil ?_))))
  exact u_get2 hu I3 g ry rz fun w' s4 I4 rw' => ⟨_, H3, I4, rw', q3⟩
end
end DL

set_option Elab.async false
set_option linter.all false
set_option maxRecDepth 100000
set_option maxHeartbeats 4000000
set_option autoImplicit false
/-! Data layer: dicts whatever their keys, by data. -/
namespace DL
open PySem PySem.Spec PyProof.Rows L2
def lookU (S : Sto) (d q : D) : Option (Option D) := match deref S d with
  | .dct kvs => if isKey q then some (lookD kvs q) else if kvs.isEmpty && isKeyN q then some none else none
  | .dcn kvs => if isKeyN q then some (lookN kvs q) else none
  | _ => none
def gGetU : Sto → D → D → Option D := fun S d q => match lookU S d q with
  | some (some v) => some v
  | _ => none
def gInU : Sto → D → D → Option D := fun S q d => (lookU S d q).map fun o => .bl o.isSome
def gNotInU : Sto → D → D → Option D := fun S q d => (lookU S d q).map fun o => .bl (!o.isSome)
def isDct (S : Sto) (d : D) : Bool := match deref S d with
  | .dct _ => true
  | .dcn _ => true
  | _ => false
/-- d.get(k, x) -/
def rGet2 (a k x : RE) : RE := fun δ S => (a δ S).bind fun d S1 => if isDct S1 d then (k δ S1).bind fun q S2 => (x δ S2).bind fun z S3 => .lift ((lookU S3 d q).map (·.getD z)) S3 else .stuck
/-- d[k] = v -/
def putU (u y z : D) : Option D := match u with
  | .dct kvs => if isKey y then (if kvs.length < sizeLine then some (.dct (putD kvs y z)) else none) else if kvs.isEmpty && isKeyN y then some (.dcn [(y, z)]) else none
  | .dcn kvs => if isKeyN y && decide (kvs.length < sizeLine) then some (.dcn (putN kvs y z)) else none
  | _ => none
def sPutU (d k v : RE) : RS := fun δ S => (v δ S).out δ fun z S1 => (d δ S1).out δ fun x S2 => (k δ S2).out δ fun y S3 => match x with
  | .ptr n => (match S3[n]? with
    | some u => (match putU u y z with
      | some u' => .nx δ (S3.set n u')
      | none => .stuck)
    | none => .stuck)
  | _ => .stuck
section
variable {wd : World} {K : Fg} {mg : Str → Option Value} {α β : List Addr} {F F1 H H1 : Hp} {S : Sto}
theorem isKeyN_ex {q : D} (h : isKeyN q = true) : ∃ ds nk, q = .tup ds ∧ keyN q = some nk ∧ nk.depth ≤ 8 := by
  cases q with
  | tup ds =>
    unfold isKeyN at h
    dsimp only at h
    split at h
    · rename_i k e
      exact ⟨ds, k, rfl, e, of_decide_eq_true h⟩
    · cases h
  | _ => cases h
theorem eqN_dec {a b : D} {x y : NestedKey} (h1 : keyN a = some x) (h2 : keyN b = some y) : eqN a b = decide (x = y) := by
  unfold eqN
  rw [h1, h2, NestedKey.decide_eq]
theorem NVs.keys {xs : List (NestedKey × Addr × V)} {kvs : List (D × D)} (h : NVs wd K mg F α xs kvs) (s : Sub F H) : NKeys K H xs := by
  induction h with
  | nil => intro x hx; cases hx
  | cons h1 h2 h3 _ _ _ ih =>
    intro x hx
    rcases List.mem_cons.mp hx with rfl | hx
    · exact ⟨h3.nk h1 s, h2⟩
    · exact ih x hx
theorem NVs.length {xs : List (NestedKey × Addr × V)} {kvs : List (D × D)} (h : NVs wd K mg F α xs kvs) : xs.length = kvs.length := by
  induction h with
  | nil => rfl
  | cons _ _ _ _ _ _ ih => rw [List.length_cons, List.length_cons, ih]
theorem putV1_pos {k : NestedKey} {v : V} {x : NestedKey × Addr × V} (h : x.1 = k) : putV1 k v x = (x.1, x.2.1, v) := if_pos h
theorem putV1_neg {k : NestedKey} {v : V} {x : NestedKey × Addr × V} (h : ¬ x.1 = k) : putV1 k v x = x := if_neg h
theorem NVs.look {xs : List (NestedKey × Addr × V)} {kvs : List (D × D)} (h : NVs wd K mg F α xs kvs) {q : D} {nk : NestedKey} (hq : keyN q = some nk) :
    (∀ d, lookN kvs q = some d → ∃ v, lookV xs nk = some v ∧ DV wd K mg F α v d) ∧ (lookN kvs q = none → lookV xs nk = none) := by
  induction h with
  | nil => exact ⟨(fun d e => by cases e), fun _ => rfl⟩
  | @cons nk' b' v' q' d' xs kvs h1 h2 h3 h4 h5 h6 ih =>
    unfold lookN lookV
    rw [eqN_dec h1 hq, List.find?_cons]
    by_cases e : nk' = nk
    · rw [decide_eq_true e]
      exact ⟨(fun d z => by cases z; exact ⟨_, rfl, h5⟩), fun z => by cases z⟩
    · rw [decide_eq_false e]
      exact ih
theorem NVs.isSome {xs : List (NestedKey × Addr × V)} {kvs : List (D × D)} (h : NVs wd K mg F α xs kvs) {q : D} {nk : NestedKey} (hq : keyN q = some nk) : (lookN kvs q).isSome = (lookV xs nk).isSome := by
  obtain ⟨h1, h2⟩ := h.look hq
  cases e : lookN kvs q with
  | none => rw [h2 e]; rfl
  | some d => obtain ⟨v, e1, _⟩ := h1 d e; rw [e1]; rfl
theorem NVs.append {xs ys : List (NestedKey × Addr × V)} {kvs lws : List (D × D)} (h : NVs wd K mg F α xs kvs) (g : NVs wd K mg F α ys lws) : NVs wd K mg F α (xs ++ ys) (kvs ++ lws) := by
  induction h with
  | nil => exact g
  | cons h1 h2 h3 h4 h5 _ ih => exact .cons h1 h2 h3 h4 h5 ih
theorem NVs.put {xs : List (NestedKey × Addr × V)} {kvs : List (D × D)} (h : NVs wd K mg F α xs kvs) {q d : D} {nk : NestedKey} {b : Addr} {v : V} (hq : keyN q = some nk) (hd : nk.depth ≤ 8) (hb : DV wd K mg F α (.ref b) q) (ht : ∃ ds, q = .tup ds) (hv : DV wd K mg F α v d) :
    NVs wd K mg F α (putV xs nk b v) (putN kvs q d) := by
  unfold putV putN
  rw [← h.isSome hq]
  by_cases c : (lookN kvs q).isSome = true
  · rw [if_pos c, if_pos c]
    clear c
    induction h with
    | nil => exact .nil
    | @cons nk' b' v' q' d' xs kvs h1 h2 h3 h4 h5 _ ih =>
      rw [List.map_cons]
      unfold replN
      rw [eqN_dec h1 hq]
      by_cases z : nk' = nk
      · rw [decide_eq_true z, if_pos rfl, putV1_pos (x := (nk', b', v')) z]
        exact .cons h1 h2 h3 h4 hv ih
      · rw [decide_eq_false z, if_neg (show ¬ false = true by decide), putV1_neg (x := (nk', b', v')) z]
        exact .cons h1 h2 h3 h4 h5 ih
  · rw [if_neg c, if_neg c]
    exact h.append (.cons hq hd hb ht hv .nil)
theorem DV.isRef {v : V} {ds : List D} (h : DV wd K mg F α v (.tup ds)) : ∃ b, v = .ref b := by cases h; exact ⟨_, rfl⟩
theorem Rel.uget (hr : Rel wd K mg α F H S) {x y : V} {d q : D} {r : Option D} (hx : DV wd K mg F α x d) (hy : DV wd K mg F α y q) (e : lookU S d q = some r) :
    ∃ a o, x = .ref a ∧ UGet wd K H a y o ∧ (r = none → o = none) ∧ ∀ z, r = some z → ∃ v, o = some v ∧ DV wd K mg F α v z := by
  have s := hr.see hx
  unfold lookU at e
  generalize hd : deref S d = dd at e s
  cases s with
  | «at» h _ => cases h <;> cases e
  | dead => cases e
  | lst _ _ => cases e
  | @dct a ws kvs rd k t =>
    dsimp only at e
    split at e
    · rename_i hk
      cases e
      obtain ⟨k', rfl⟩ := isKey_kD hk
      have := kD_DV hy
      subst this
      have kv := KVs.of k t
      obtain ⟨g1, g2⟩ := kv.look k'
      exact ⟨a, valV ws k', rfl, .inl (.inl ⟨ws, k', rd, rfl, rfl⟩), g2, g1⟩
    · split at e
      · rename_i hc
        cases e
        rw [Bool.and_eq_true] at hc
        obtain ⟨ds, nk, rfl, h1, h2⟩ := isKeyN_ex hc.2
        obtain ⟨b, rfl⟩ := DV.isRef hy
        have : kvs = [] := List.isEmpty_iff.mp hc.1
        subst this
        have : ws = [] := by have := t.length; simpa using this
        subst this
        exact ⟨a, none, rfl, .inr ⟨[], nk, b, .inr ⟨rfl, rd⟩, (fun _ h => nomatch h), rfl, hy.nk h1 hr.sub, h2, rfl⟩, fun _ => rfl, fun z hz => by cases hz⟩
      · cases e
  | @dcn a xs kvs rd nv =>
    dsimp only at e
    split at e
    · rename_i hk
      cases e
      obtain ⟨ds, nk, rfl, h1, h2⟩ := isKeyN_ex hk
      obtain ⟨b, rfl⟩ := DV.isRef hy
      obtain ⟨g1, g2⟩ := nv.look h1
      exact ⟨a, lookV xs nk, rfl, .inr ⟨xs, nk, b, .inl rd, nv.keys hr.sub, rfl, hy.nk h1 hr.sub, h2, rfl⟩, g2, g1⟩
    · cases e
theorem Rel.usd (hr : Rel wd K mg α F H S) {x : V} {d : D} (hx : DV wd K mg F α x d) (e : isDct S d = true) : ∃ a, x = .ref a ∧ UsD wd K H a := by
  have s := hr.see hx
  unfold isDct at e
  generalize deref S d = dd at e s
  cases s with
  | «at» h _ => cases h <;> cases e
  | dead => cases e
  | lst _ _ => cases e
  | @dct a ws kvs rd k t => exact ⟨a, rfl, .inl (.inl ⟨ws, rd⟩)⟩
  | @dcn a xs kvs rd nv => exact ⟨a, rfl, .inr ⟨xs, .inl rd, nv.keys hr.sub⟩⟩
end
section
variable {X : Cx} {W : WX} {a b c e tg : Expr} {es rest : List Expr} {ra rb rc : RE} {ba bb : RB} {rs : RA} {pos p : Pos} {wd : World} {K : Fg} {mg : Str → Option Value} {α β : List Addr} {F F1 H H1 : Hp} {S : Sto}
theorem pd_uget (hu : X.A.units + 10 < cLine) (ha : PD X W a ra) (hb : PD X W b rb) (hs : NoSl b := by intro _ _; rfl) : PD X W (.Subscript a b pos) (rBin gGetU ra rb) := by
  obtain ⟨ta, pa, sa⟩ := ha.ex
  obtain ⟨tb, pb, sb⟩ := hb.ex
  refine ⟨_, pe_uget hu pa pb hs, sa.bin sb fun α F H S x y d e z Q hr hx hy hz q => ?_⟩
  unfold gGetU at hz
  split at hz
  · rename_i v e1
    cases hz
    obtain ⟨l, o, rfl, h1, _, h3⟩ := hr.uget hx hy e1
    obtain ⟨v', rfl, h4⟩ := h3 z rfl
    exact ⟨l, v', rfl, h1, fin_now hr h4 q⟩
  · cases hz
theorem pd_inU (hu : X.A.units + 10 < cLine) (ha : PD X W a ra) (hb : PD X W b rb) (hm : behindInMarks .In b = false := by rfl) : PD X W (.Compare a [.In] [b] pos) (rBin gInU ra rb) ∧ PB X W (.Compare a [.In] [b] pos) (bVal (rBin gInU ra rb)) := by
  obtain ⟨ta, pa, sa⟩ := ha.ex
  obtain ⟨tb, pb, sb⟩ := hb.ex
  have s : SndE X.w X.K X.mg W (tUIn X ta tb) (rBin gInU ra rb) := sa.bin sb fun α F H S x y d e z Q hr hx hy hz q => by
    unfold gInU at hz
    obtain ⟨o, e1, e2⟩ := Option.map_eq_some_iff.mp hz
    obtain ⟨l, o', rfl, h1, h2, h3⟩ := hr.uget hy hx e1
    subst e2
    refine ⟨l, o', rfl, h1, fin_now hr ?_ q⟩
    cases o with
    | none => rw [h2 rfl]; exact .bl _
    | some v => obtain ⟨v', rfl, _⟩ := h3 v rfl; exact .bl _
  exact ⟨⟨_, pe_cmp (pc_uin hu pa pb) hm, s⟩, ⟨_, pt_cmp (pc_uin hu pa pb) hm, s.val⟩⟩
theorem pd_notInU (hu : X.A.units + 10 < cLine) (ha : PD X W a ra) (hb : PD X W b rb) (hm : behindInMarks .NotIn b = false := by rfl) : PD X W (.Compare a [.NotIn] [b] pos) (rBin gNotInU ra rb) ∧ PB X W (.Compare a [.NotIn] [b] pos) (bVal (rBin gNotInU ra rb)) := by
  obtain ⟨ta, pa, sa⟩ := ha.ex
  obtain ⟨tb, pb, sb⟩ := hb.ex
  have s : SndE X.w X.K X.mg W (tUNotIn X ta tb) (rBin gNotInU ra rb) := sa.bin sb fun α F H S x y d e z Q hr hx hy hz q => by
    unfold gNotInU at hz
    obtain ⟨o, e1, e2⟩ := Option.map_eq_some_iff.mp hz
    obtain ⟨l, o', rfl, h1, h2, h3⟩ := hr.uget hy hx e1
    subst e2
    refine ⟨l, o', rfl, h1, fin_now hr ?_ q⟩
    cases o with
    | none => rw [h2 rfl]; exact .bl _
    | some v => obtain ⟨v', rfl, _⟩ := h3 v rfl; exact .bl _
  exact ⟨⟨_, pe_cmp (pc_unotin hu pa pb) hm, s⟩, ⟨_, pt_cmp (pc_unotin hu pa pb) hm, s.val⟩⟩
theorem pd_get2 {apos cpos : Pos} (hu : X.A.units + 10 < cLine) (ha : PD X W a ra) (hb : PD X W b rb) (hc : PD X W c rc) (m : M2 X a "get" apos b c cpos := by exact ⟨rfl, rfl, rfl, rfl⟩) : PD X W (.Call (.Attribute a "get" apos) [b, c] [] cpos) (rGet2 ra rb rc) := by
  obtain ⟨ta, pa, sa⟩ := ha.ex
  obtain ⟨tb, pb, sb⟩ := hb.ex
  obtain ⟨tc, pc, sc⟩ := hc.ex
  refine ⟨_, pe_uget2 hu pa pb pc m, fun α F σ H δ S Q hr hs h => ?_⟩
  refine sa α F σ H δ S _ hr hs (wp.bind h fun d S1 _ x H1 β F1 r1 s1 v1 h1 => ?_)
  split at h1
  · rename_i hd
    obtain ⟨l, rfl, hd'⟩ := r1.usd v1 hd
    refine ⟨l, rfl, hd', ?_⟩
    refine sb (α ++ β) F1 σ H1 δ S1 _ r1 (hs.mono s1.sub) (wp.bind h1 fun q S2 _ y H2 γ F2 r2 s2 v2 h2 => ?_)
    refine sc (α ++ β ++ γ) F2 σ H2 δ S2 _ r2 ((hs.mono s1.sub).mono s2.sub) (wp.bind h2 fun z S3 _ w H3 ε F3 r3 s3 v3 h3 => ?_)
    obtain ⟨z', e1, h4⟩ := wp.lift h3
    obtain ⟨o, e2, e3⟩ := Option.map_eq_some_iff.mp e1
    obtain ⟨l', o', e4, g1, g2, g3⟩ := r3.uget ((v1.mono s2.sub).mono s3.sub) (v2.mono s3.sub) e2
    cases e4
    refine ⟨o', g1, ?_⟩
    subst e3
    cases o with
    | none => rw [g2 rfl]; exact h4.now r3 v3
    | some v => obtain ⟨v', rfl, q'⟩ := g3 v rfl; exact h4.now r3 q'
  · exact h1.elim
theorem psd_putU {o i value : Expr} {pos' : Pos} {ro ri rv : RE} (hu : X.A.units + 10 < cLine) (ho : PD X W o ro) (hi : PD X W i ri) (hv : PD X W value rv) (hs : swapsWith value (some (.Subscript o i pos')) pos.line X.env = pure false := by rfl) : PSd X W (.Assign [.Subscript o i pos'] value pos) (sPutU ro ri rv) := by
  obtain ⟨to, po, so⟩ := ho.ex
  obtain ⟨ti, pi, si⟩ := hi.ex
  obtain ⟨tv, pv', sv⟩ := hv.ex
  refine ⟨_, ps_uput hu po pi pv' hs, fun α F σ H δ S E hr hs h => ?_⟩
  refine sv α F σ H δ S _ hr hs (wpS.out h hs fun z S1 _ v H1 β F1 r1 q1 v1 h1 => ?_)
  have hs1 := hs.mono (β := β) q1.sub
  refine so (α ++ β) F1 σ H1 δ S1 _ r1 hs1 (wpS.out h1 hs1 fun x S2 _ xv H2 γ F2 r2 q2 v2 h2 => ?_)
  have hs2 := hs1.mono (β := γ) q2.sub
  refine si (α ++ β ++ γ) F2 σ H2 δ S2 _ r2 hs2 (wpS.out h2 hs2 fun y S3 _ yv H3 ε F3 r3 q3 v3 h3 => ?_)
  have hs3 := hs2.mono (β := ε) q3.sub
  split at h3
  · rename_i n
    split at h3
    · rename_i u e1
      split at h3
      · rename_i u' e2
        have v2' := v2.mono (β := ε) q3.sub
        have vz := (v1.mono (β := γ) q2.sub).mono (β := ε) q3.sub
        cases v2' with
        | @ptr _ ad ea =>
          obtain ⟨o1, _⟩ := r3.own _ _ _ ea e1
          unfold putU at e2
          cases u with
          | dct kvs =>
            dsimp only at e2
            split at e2
            · rename_i hk
              split at e2
              · rename_i hl
                cases e2
                obtain ⟨k, rfl⟩ := isKey_kD hk
                obtain ⟨ws, o2, o3⟩ := Own.dctK.mp o1
                have := kD_DV v3
                subst this
                obtain ⟨a1, a2⟩ := r3.setO (o := .dK (putK ws k v)) (d := .dct (putD kvs (kD k) z)) ea e1 rfl (Own.dctK.mpr ⟨_, upd_same, o3.put k vz⟩)
                exact ⟨_, _, rfl, .inl (.inl ⟨ws, k, o2, rfl, by rw [o3.length]; exact hl, rfl⟩), h3 _ _ _ _ a1 a2 (hs3.mono a2.sub)⟩
              · cases e2
            · split at e2
              · rename_i hc
                cases e2
                rw [Bool.and_eq_true] at hc
                obtain ⟨ds, nk, rfl, g1, g2⟩ := isKeyN_ex hc.2
                obtain ⟨b, rfl⟩ := DV.isRef v3
                have : kvs = [] := List.isEmpty_iff.mp hc.1
                subst this
                obtain ⟨ws, o2, o3⟩ := Own.dctK.mp o1
                cases o3
                obtain ⟨a1, a2⟩ := r3.setO (o := dN X.w ad (putV [] nk b v)) (d := .dcn [(.tup ds, z)]) ea e1 rfl ⟨_, upd_same, .cons g1 g2 v3 ⟨_, rfl⟩ vz .nil⟩
                exact ⟨_, _, rfl, .inr ⟨[], nk, b, .inr ⟨rfl, o2⟩, (fun _ h => nomatch h), rfl, v3.nk g1 r3.sub, g2, by decide, rfl⟩, h3 _ _ _ _ a1 a2 (hs3.mono a2.sub)⟩
              · cases e2
          | dcn kvs =>
            dsimp only at e2
            split at e2
            · rename_i hc
              cases e2
              rw [Bool.and_eq_true] at hc
              obtain ⟨ds, nk, rfl, g1, g2⟩ := isKeyN_ex hc.1
              obtain ⟨b, rfl⟩ := DV.isRef v3
              obtain ⟨xs, o2, o3⟩ := o1
              obtain ⟨a1, a2⟩ := r3.setO (o := dN X.w ad (putV xs nk b v)) (d := .dcn (putN kvs (.tup ds) z)) ea e1 rfl ⟨_, upd_same, o3.put g1 g2 v3 ⟨_, rfl⟩ vz⟩
              exact ⟨_, _, rfl, .inr ⟨xs, nk, b, .inl o2, o3.keys r3.sub, rfl, v3.nk g1 r3.sub, g2, by rw [o3.length]; exact of_decide_eq_true hc.2, rfl⟩, h3 _ _ _ _ a1 a2 (hs3.mono a2.sub)⟩
            · cases e2
          | _ => cases e2
      · exact h3.elim
    · exact h3.elim
  · exact h3.elim
end
end DL

set_option Elab.async false
set_option linter.all false
set_option maxRecDepth 100000
set_option maxHeartbeats 4000000
set_option autoImplicit false
/-! Data layer: dicts walked while they are locked. -/
namespace DL
open PySem PySem.Spec PyProof.Rows L2

/-! ### a locked dict of tuple keys -/
section
variable {X : Cx} {pins : List (Addr × Obj)} {σ : L2.St} {H : Hp} {s : Shared} {d : Addr} {o : Obj}
theorem frzN {xs : List (NestedKey × Addr × V)} (I : Inv X pins σ H s) (h : H d = some (.frz o (dN X.w d xs))) :
    (d == sysModules) = false ∧ s.heap.get? d = some o ∧ o.ExactDict ∧ ∃ (es : Array DictEntry) (ep : Nat), o.data = .dict es ep ∧ es.size = xs.length ∧
      ∀ (i : Nat) (k : NestedKey) (b : Addr) (v : V), xs[i]? = some (k, b, v) → ∃ en : DictEntry, es[i]? = some en ∧ en.key = .ref b ∧ RelV v en.val := by
  obtain ⟨hd, ⟨h1, h2, h3, vs, h4, o', es, ep, h5, h6, h7, h8⟩, _⟩ := I.hok d _ h
  rw [hd] at h5
  cases h5
  have hl := h4.length
  refine ⟨h1, hd, h6, es, ep, h7, ?_, fun i k b v e => ?_⟩
  · rw [← Array.length_toList, h8, List.length_map, hl]
  · obtain ⟨y, hy, e1, e2, e3⟩ := paired_get h4 e
    refine ⟨⟨y.1.hash X.w, .ref y.2.1, y.2.2⟩, ?_, ?_, e3⟩
    · rw [← Array.getElem?_toList, h8, List.getElem?_map, hy]; rfl
    · show Value.ref y.2.1 = .ref b
      rw [← e2]
end
/-- the pairs, each a new tuple -/
def ItiN (w : World) (d : Addr) (o : Obj) (xs : List (NestedKey × Addr × V)) : It :=
  ⟨fun i H => H d = some (.frz o (dN w d xs)) ∧ i < xs.length, fun i H x H' => ∃ T k b v, xs[i]? = some (k, b, v) ∧ x = .ref T ∧ H T = none ∧ H' = upd H T (.tup [.ref b, v]), fun i H => H d = some (.frz o (dN w d xs)) ∧ xs.length ≤ i⟩
/-- the keys -/
def ItkN (w : World) (d : Addr) (o : Obj) (xs : List (NestedKey × Addr × V)) : It :=
  ⟨fun i H => H d = some (.frz o (dN w d xs)) ∧ i < xs.length, fun i H x H' => H' = H ∧ ∃ k b v, xs[i]? = some (k, b, v) ∧ x = .ref b, fun i H => H d = some (.frz o (dN w d xs)) ∧ xs.length ≤ i⟩
section
variable {P : Program} {w : World} {K : Fg} {tg : Expr} {d : Addr} {o : Obj} {es : Array DictEntry} {ep : Nat}
theorem turn_itemsN {xs : List (NestedKey × Addr × V)} {elts : List Expr} {kk : Nat} {tpos : Pos} (it : Addr) (hod : o.data = .dict es ep) :
    Turn P w K (.Tuple elts kk tpos) (ItiN w d o xs) [it] it (fun i h => ∃ ok ov, IsItemIter h it d i xs.length ep ok ov) where
  mem := by simp
  obj := fun i h st b hb => by
    have e : b = it := by simpa using hb
    subst e
    obtain ⟨ok, ov, e⟩ := st
    exact ⟨_, e, fun v z => nomatch z⟩
  keep := fun i h h' st k => let ⟨ok, ov, e⟩ := st; ⟨ok, ov, k it (by simp) _ e⟩
  item := by
    intro X hP hw hK hc i pins s σ H E I hf st hg
    subst hP hw hK
    obtain ⟨hd, hi⟩ := hg
    obtain ⟨hs, hgd, hx, es', ep', hdt, hsz, ent⟩ := frzN I hd
    obtain ⟨rfl, rfl⟩ := dict_ep hod hdt
    obtain ⟨⟨k, b, v⟩, hkv⟩ : ∃ p, xs[i]? = some p := ⟨xs[i], List.getElem?_eq_getElem hi⟩
    obtain ⟨en, hen, hkey, rv⟩ := ent i k b v hkv
    obtain ⟨ok, ov, he⟩ := st
    rw [← hsz] at he
    have hlt : it < s.heap.objs.size := Heap.lt_size he
    have hi' : i < es'.size := by rw [hsz]; exact hi
    have ee : es'[i] = en := by
      rw [Array.getElem?_eq_getElem hi'] at hen
      exact Option.some.inj hen
    refine wpAny_pyNext_items_item_raw he ⟨o, hgd, hx, hdt⟩ hi' fun h' ho hT hz hk => ?_
    refine ⟨_, rfl, wpAny_letOwnedTupleGo_items (s := { s with heap := h' }) ho fun h'' he' sb => ?_⟩
    have hT2 : h''.get? s.heap.objs.size = some { cls := .type "tuple", data := .seq #[es'[i].key, es'[i].val] } := (sb.2 _ (Nat.ne_of_gt hlt)).trans hT
    have new : ObjOk X.prog X.w (upd H s.heap.objs.size (.tup [.ref b, v])) h'' s.heap.objs.size (.tup [.ref b, v]) :=
      ⟨by show 2 ≤ sizeLine; decide, [es'[i].key, es'[i].val], .cons (show es'[i].key = .ref b by rw [ee]; exact hkey) (.cons (by rw [ee]; exact rv) .nil), ⟨_, hT2, rfl, _, rfl⟩⟩
    have I1 : Inv X pins σ (upd H s.heap.objs.size (.tup [.ref b, v])) { s with heap := h'' } :=
      I.turnedNew (t' := s.toks) (ch := [it]) (fun b ob hb e => (sb.2 b (by simpa using hb)).trans (hk b ob (by simpa using hb) e)) hf (Nat.le_refl _) new
    refine ⟨.ref s.heap.objs.size, _, I1, rfl, ⟨_, k, b, v, hkv, rfl, I.hok.fresh (Nat.le_refl _), rfl⟩, ⟨es'[i].key, es'[i].val, ?_⟩, fun b hb => ?_⟩
    · rw [← hsz]; exact he'
    · have e : b = it := by simpa using hb
      rw [e, upd_ne (Nat.ne_of_lt hlt)]
      exact (hf it (by simp)).1
  done := by
    intro X hP hw hK hc i pins s σ H E I hf st hg
    subst hP hw hK
    obtain ⟨hd, hi⟩ := hg
    obtain ⟨f0, f1, f2, f3, f4, f5⟩ := hf it (by simp)
    obtain ⟨hs, hgd, hx, es', ep', hdt, hsz, ent⟩ := frzN I hd
    obtain ⟨rfl, rfl⟩ := dict_ep hod hdt
    obtain ⟨ok, ov, he⟩ := st
    rw [← hsz] at he
    exact wpAny_pyNext_items_end_raw (I.ok.hd hc) he ⟨o, hgd, hx, hdt⟩ (by omega) fun h' eb => ⟨rfl, I.turned (t' := s.toks) (fun b ob hb e => eb b ob hb e) f0 f1 f3 f4 f5⟩
  self := fun A i s Q E st h => let ⟨_, _, e⟩ := st; PySem.W.kcp_self e h
theorem turn_keysN {xs : List (NestedKey × Addr × V)} (it : Addr) (hod : o.data = .dict es ep) : Turn P w K tg (ItkN w d o xs) [it] it (fun i h => h.IsKeyIter it d i xs.length ep) where
  mem := by simp
  obj := fun i h st b hb => by
    have e : b = it := by simpa using hb
    subst e
    obtain ⟨oi, e, c, dd⟩ := st
    exact ⟨oi, e, fun v z => by rw [dd] at z; cases z⟩
  keep := fun i h h' st k => st.at fun oi e => k it (by simp) oi e
  item := by
    intro X hP hw hK hc i pins s σ H E I hf st hg
    subst hP hw hK
    obtain ⟨hd, hi⟩ := hg
    obtain ⟨f0, f1, f2, f3, f4, f5⟩ := hf it (by simp)
    obtain ⟨hs, hgd, hx, es', ep', hdt, hsz, ent⟩ := frzN I hd
    obtain ⟨rfl, rfl⟩ := dict_ep hod hdt
    obtain ⟨⟨k, b, v⟩, hkv⟩ : ∃ p, xs[i]? = some p := ⟨xs[i], List.getElem?_eq_getElem hi⟩
    obtain ⟨en, hen, hkey, rv⟩ := ent i k b v hkv
    refine next_key_item st hgd hdt hsz hen fun h' st' sb => ?_
    have I1 : Inv X pins σ H { s with heap := h' } := I.turned (t' := s.toks) (fun b ob hb e => (sb.2 b hb).trans e) f0 f1 f3 f4 f5
    obtain ⟨oi, e, c, dd⟩ := id st'
    exact ⟨en.key, rfl, go_of (s := { s with heap := h' }) e c dd (by decide) ⟨.ref b, H, I1, hkey, ⟨rfl, k, b, v, hkv, rfl⟩, st', fun b hb => (hf b hb).1⟩⟩
  done := by
    intro X hP hw hK hc i pins s σ H E I hf st hg
    subst hP hw hK
    obtain ⟨hd, hi⟩ := hg
    obtain ⟨f0, f1, f2, f3, f4, f5⟩ := hf it (by simp)
    obtain ⟨hs, hgd, hx, es', ep', hdt, hsz, ent⟩ := frzN I hd
    obtain ⟨rfl, rfl⟩ := dict_ep hod hdt
    exact next_key_end (I.ok.hd hc) st hgd hdt hsz hi fun h' eb => ⟨rfl, I.turned (t' := s.toks) (fun b ob hb e => eb b ob hb e) f0 f1 f3 f4 f5⟩
  self := fun A i s Q E st h => by
    refine wpAny_pyIter_slot st.typeIs F.slot_dict_keyiterator_iter (wpAny_call_entry F.slot_dict_keyiterator_iter st.typeIs F.entry_dict_keyiterator_iter ?_ (F.args_dict_keyiterator_iter_1 _))
    show wpAny _ _ (ret (.ref it)) _ _ s
    exact wpAny_pure ⟨_, rfl, "dict_keyiterator", _, st.typeIs, F.slot_dict_keyiterator_next.lookup, h⟩
end
def iItemsU (X : Cx) (td : TE) : TI := fun σ H R => td σ H fun x H1 => ∃ d o, x = .ref d ∧ ((∃ kvs, H1 d = some (.frz o (.dK kvs)) ∧ R (Iti d o kvs) H1) ∨ ∃ xs, H1 d = some (.frz o (dN X.w d xs)) ∧ R (ItiN X.w d o xs) H1)
def iKeysU (X : Cx) (td : TE) : TI := fun σ H R => td σ H fun x H1 => ∃ d o, x = .ref d ∧ ((∃ kvs, H1 d = some (.frz o (.dK kvs)) ∧ R (Itk d o kvs) H1) ∨ ∃ xs, H1 d = some (.frz o (dN X.w d xs)) ∧ R (ItkN X.w d o xs) H1)
section
variable {X : Cx} {tg e : Expr} {td : TE} {apos cpos : Pos}
theorem pi_itemsU {elts : List Expr} {kk : Nat} {tpos : Pos} (he : PE X e td) (hbase : attributeBase e "items" X.env (eval e X.env) = eval e X.env := by rfl) (hline : (apos.endLine == cpos.line) = true := by rfl) :
    PI X (.Tuple elts kk tpos) (.Call (.Attribute e "items" apos) [] [] cpos) (iItemsU X td) := by
  refine ⟨fun pins s σ H R I h => ?_⟩
  refine wpAny_Call_method (T := "dict") (id := "dict.items") hbase rfl hline F.plainAttrs_dict F.slot_dict_items F.type_dict_items (thn (he.run pins s σ H _ I h) fun u s1 ⟨x, H1, I1, rx, d, o, ex, q⟩ => ?_)
  subst ex
  obtain rfl : u = Value.ref d := rx
  rcases q with ⟨kvs, hd, q⟩ | ⟨xs, hd, q⟩
  · obtain ⟨hs, hgd, hx, es, ep, vs, hdt, hsz, kv, hm⟩ := I1.frzK hd
    have hl : kvs.length = vs.length := Paired.length kv
    refine ⟨hm.dictOf.typeIs, hm.dictOf.mapOf.noDict, ?_⟩
    have I2 : Inv X pins σ H1 { s1 with heap := s1.heap.push { cls := .type "dict_items", data := .fields #[.ref d] } } := I1.kept (t' := s1.toks) fun b ob q => Heap.get?_push_of_some _ q
    have fin : wpAny (model X.prog X.w) X.A (pyIter (.ref s1.heap.objs.size)) (PIE X pins σ (.Tuple elts kk tpos) R) X.xe { s1 with heap := s1.heap.push { cls := .type "dict_items", data := .fields #[.ref d] } } := by
      refine wpAny_pyIter_items (d := d) (knd := mixKind X.prog X.w) ⟨_, Heap.get?_push_size _ rfl, rfl, rfl⟩ (hm.push _) (pi_one (tk := s1.toks) I2 _ (turn_items _ hdt) ⟨.none, .none, ?_⟩ q)
      rw [hl]
      exact Heap.get?_push_size _ rfl
    show wpAny _ _ (callWith cpos (.builtin "dict.items") [.ref d] [] []) _ X.xe s1
    exact method_meetsIn F.slot_dict_items F.entry_dict_items rfl (PySem.evalArgs_none ⟨rfl, hm.dictOf.typeIs, F.args_dict_items_1 _, _, meets_dict_items (mixKind X.prog X.w) d hs, ⟨vs, hm.dictOf⟩, fin⟩)
  · obtain ⟨hs, hgd, hx, es, ep, hdt, hsz, ent⟩ := frzN I1 hd
    have raw : s1.heap.DictRaw d es ep := ⟨o, hgd, hx, hdt⟩
    refine ⟨raw.typeIs, fun b e => ?_, ?_⟩
    · cases e; exact ⟨o, hgd, hx.2.1⟩
    have I2 : Inv X pins σ H1 { s1 with heap := s1.heap.push { cls := .type "dict_items", data := .fields #[.ref d] } } := I1.kept (t' := s1.toks) fun b ob q => Heap.get?_push_of_some _ q
    have fin : wpAny (model X.prog X.w) X.A (pyIter (.ref s1.heap.objs.size)) (PIE X pins σ (.Tuple elts kk tpos) R) X.xe { s1 with heap := s1.heap.push { cls := .type "dict_items", data := .fields #[.ref d] } } := by
      refine wpAny_pyIter_items_raw (d := d) ⟨_, Heap.get?_push_size _ rfl, rfl, rfl⟩ (raw.at fun o e => Heap.get?_push_of_some _ e) (pi_one (tk := s1.toks) I2 _ (turn_itemsN _ hdt) ⟨.none, .none, ?_⟩ q)
      rw [← hsz]
      exact Heap.get?_push_size _ rfl
    show wpAny _ _ (callWith cpos (.builtin "dict.items") [.ref d] [] []) _ X.xe s1
    exact method_meetsIn F.slot_dict_items F.entry_dict_items rfl (PySem.evalArgs_none ⟨rfl, raw.typeIs, F.args_dict_items_1 _, _, meets_dict_items_raw d hs, ⟨es, ep, raw⟩, fin⟩)
theorem pi_keysU (he : PE X e td) : PI X tg e (iKeysU X td) := by
  refine ⟨fun pins s σ H R I h => ?_⟩
  refine thn (he.run pins s σ H _ I h) fun u s1 ⟨x, H1, I1, rx, d, o, ex, q⟩ => ?_
  subst ex
  obtain rfl : u = Value.ref d := rx
  rcases q with ⟨kvs, hd, q⟩ | ⟨kvs, hd, q⟩
  · obtain ⟨hs, hgd, hx, es, ep, vs, hdt, hsz, kv, hm⟩ := I1.frzK hd
    refine iter_keys hs hgd hx hdt (pi_one (tk := s1.toks) I1 _ (turn_keys _ hdt) ⟨_, Heap.get?_push_size _ rfl, rfl, ?_⟩ q)
    rw [hsz] <;> rfl
  · obtain ⟨hs, hgd, hx, es, ep, hdt, hsz, ent⟩ := frzN I1 hd
    refine iter_keys hs hgd hx hdt (pi_one (tk := s1.toks) I1 _ (turn_keysN _ hdt) ⟨_, Heap.get?_push_size _ rfl, rfl, ?_⟩ q)
    rw [hsz] <;> rfl
end
/-! ### by data -/
def pairsD (kvs : List (D × D)) : List D := kvs.map fun p => .tux [p.1, p.2]
def lckOf (S : Sto) (d : D) : Option (List (D × D)) := match d with
  | .ptr k => (match S[k]? with
    | some (.lck (.dct kvs)) => some kvs
    | some (.lck (.dcn kvs)) => some kvs
    | _ => none)
  | _ => none
/-- d.items(), d, of a locked dict -/
def rItems (a : RE) : RA := fun δ S => (a δ S).bind fun d S1 => .lift ((lckOf S1 d).map pairsD) S1
def rKeys (a : RE) : RA := fun δ S => (a δ S).bind fun d S1 => .lift ((lckOf S1 d).map fun kvs => kvs.map (·.1)) S1
section
variable {wd : World} {K : Fg} {mg : Str → Option Value} {α β : List Addr} {F F1 H H1 : Hp} {S : Sto}
theorem KVs.at {ws : List (Key × V)} {kvs : List (D × D)} (h : KVs wd K mg F α ws kvs) : ∀ {i : Nat} {p : D × D}, kvs[i]? = some p → ∃ k v, ws[i]? = some (k, v) ∧ p.1 = kD k ∧ DV wd K mg F α v p.2 := by
  induction h with
  | nil => intro i p e; simp at e
  | cons h _ ih =>
    intro i p e
    cases i with
    | zero => simp at e; subst e; exact ⟨_, _, rfl, rfl, h⟩
    | succ i => simp at e; obtain ⟨k, v, e1, e2, e3⟩ := ih e; exact ⟨k, v, by simpa using e1, e2, e3⟩
theorem NVs.at {xs : List (NestedKey × Addr × V)} {kvs : List (D × D)} (h : NVs wd K mg F α xs kvs) : ∀ {i : Nat} {p : D × D}, kvs[i]? = some p → ∃ k b v, xs[i]? = some (k, b, v) ∧ DV wd K mg F α (.ref b) p.1 ∧ DV wd K mg F α v p.2 := by
  induction h with
  | nil => intro i p e; simp at e
  | cons h1 h2 h3 h4 h5 _ ih =>
    intro i p e
    cases i with
    | zero => simp at e; subst e; exact ⟨_, _, _, rfl, h3, h5⟩
    | succ i => simp at e; obtain ⟨k, b, v, e1, e2, e3⟩ := ih e; exact ⟨k, b, v, by simpa using e1, e2, e3⟩
theorem DV.key (k : Key) : DV wd K mg F α (kV k) (kD k) := by cases k <;> constructor
theorem Sub.at {F F' : Hp} {a : Addr} {u : HO} (s : Sub F F') (h : F a = some u) : F' a = some u := s _ _ h
theorem it_items {a : Addr} {o : Obj} {ws : List (Key × V)} {kvs : List (D × D)} (hF : F a = some (.frz o (.dK ws))) (h : KVs wd K mg F α ws kvs) : ItOk wd K mg F α (Iti a o ws) (pairsD kvs) where
  go := fun F' H' i s1 s2 hi => ⟨s2 _ _ (s1 _ _ hF), by unfold pairsD at hi; rw [List.length_map] at hi; rw [h.length]; exact hi⟩
  stop := fun F' H' s1 s2 => ⟨s2 _ _ (s1 _ _ hF), by unfold pairsD; rw [List.length_map, h.length]; exact Nat.le_refl _⟩
  yld := fun F' H' H2 i x d s1 s2 hd ⟨T, k, v, e1, e2, e3, e4⟩ => by
    unfold pairsD at hd
    rw [List.getElem?_map] at hd
    obtain ⟨p, hp, rfl⟩ := Option.map_eq_some_iff.mp hd
    obtain ⟨k', v', g1, g2, g3⟩ := h.at hp
    rw [e1] at g1
    cases g1
    refine .inr ⟨T, _, e3, e4, ?_⟩
    subst e2
    have hn : F' T = none := by
      cases q : F' T with
      | none => rfl
      | some u => rw [s2 _ _ q] at e3; cases e3
    have g3' := g3.mono (β := []) (s1.trans (Sub.new (o := .tup [kV k, v]) hn))
    rw [List.append_nil] at g3'
    rw [g2]
    exact .tux (SqT.of upd_same) (.cons (DV.key k) (.cons g3' .nil))
theorem it_itemsN {a : Addr} {o : Obj} {xs : List (NestedKey × Addr × V)} {kvs : List (D × D)} (hF : F a = some (.frz o (dN wd a xs))) (h : NVs wd K mg F α xs kvs) : ItOk wd K mg F α (ItiN wd a o xs) (pairsD kvs) where
  go := fun F' H' i s1 s2 hi => ⟨s2 _ _ (s1 _ _ hF), by unfold pairsD at hi; rw [List.length_map] at hi; rw [h.length]; exact hi⟩
  stop := fun F' H' s1 s2 => ⟨s2 _ _ (s1 _ _ hF), by unfold pairsD; rw [List.length_map, h.length]; exact Nat.le_refl _⟩
  yld := fun F' H' H2 i x d s1 s2 hd ⟨T, k, b, v, e1, e2, e3, e4⟩ => by
    unfold pairsD at hd
    rw [List.getElem?_map] at hd
    obtain ⟨p, hp, rfl⟩ := Option.map_eq_some_iff.mp hd
    obtain ⟨k', b', v', g1, g2, g3⟩ := h.at hp
    rw [e1] at g1
    cases g1
    refine .inr ⟨T, _, e3, e4, ?_⟩
    subst e2
    have hn : F' T = none := by
      cases q : F' T with
      | none => rfl
      | some u => rw [s2 _ _ q] at e3; cases e3
    have sb := s1.trans (Sub.new (o := .tup [.ref b, v]) hn)
    have g2' := g2.mono (β := []) sb
    have g3' := g3.mono (β := []) sb
    rw [List.append_nil] at g2' g3'
    exact .tux (SqT.of upd_same) (.cons g2' (.cons g3' .nil))
theorem it_keys {a : Addr} {o : Obj} {ws : List (Key × V)} {kvs : List (D × D)} (hF : F a = some (.frz o (.dK ws))) (h : KVs wd K mg F α ws kvs) : ItOk wd K mg F α (Itk a o ws) (kvs.map (·.1)) where
  go := fun F' H' i s1 s2 hi => ⟨s2 _ _ (s1 _ _ hF), by rw [List.length_map] at hi; rw [h.length]; exact hi⟩
  stop := fun F' H' s1 s2 => ⟨s2 _ _ (s1 _ _ hF), by rw [List.length_map, h.length]; exact Nat.le_refl _⟩
  yld := fun F' H' H2 i x d s1 s2 hd ⟨e0, k, v, e1, e2⟩ => by
    rw [List.getElem?_map] at hd
    obtain ⟨p, hp, rfl⟩ := Option.map_eq_some_iff.mp hd
    obtain ⟨k', v', g1, g2, g3⟩ := h.at hp
    rw [e1] at g1
    cases g1
    subst e2
    exact .inl ⟨e0, by rw [g2]; exact DV.key k⟩
theorem it_keysN {a : Addr} {o : Obj} {xs : List (NestedKey × Addr × V)} {kvs : List (D × D)} (hF : F a = some (.frz o (dN wd a xs))) (h : NVs wd K mg F α xs kvs) : ItOk wd K mg F α (ItkN wd a o xs) (kvs.map (·.1)) where
  go := fun F' H' i s1 s2 hi => ⟨s2 _ _ (s1 _ _ hF), by rw [List.length_map] at hi; rw [h.length]; exact hi⟩
  stop := fun F' H' s1 s2 => ⟨s2 _ _ (s1 _ _ hF), by rw [List.length_map, h.length]; exact Nat.le_refl _⟩
  yld := fun F' H' H2 i x d s1 s2 hd ⟨e0, k, b, v, e1, e2⟩ => by
    rw [List.getElem?_map] at hd
    obtain ⟨p, hp, rfl⟩ := Option.map_eq_some_iff.mp hd
    obtain ⟨k', b', v', g1, g2, g3⟩ := h.at hp
    rw [e1] at g1
    cases g1
    subst e2
    have g2' := g2.mono (β := []) s1
    rw [List.append_nil] at g2'
    exact .inl ⟨e0, g2'⟩
/-- a locked thing -/
theorem Rel.locked (hr : Rel wd K mg α F H S) {v : V} {d : D} {kvs : List (D × D)} (h : DV wd K mg F α v d) (e : lckOf S d = some kvs) :
    ∃ a o, v = .ref a ∧ ((∃ ws, F a = some (.frz o (.dK ws)) ∧ KVs wd K mg F α ws kvs) ∨ ∃ xs, F a = some (.frz o (dN wd a xs)) ∧ NVs wd K mg F α xs kvs) := by
  unfold lckOf at e
  split at e
  · rename_i k
    cases h with
    | @ptr _ a ea =>
      split at e
      · rename_i kvs' e1
        cases e
        obtain ⟨o, ws, h0, h1, h2, h3⟩ := (hr.own _ _ _ ea e1).1
        exact ⟨a, o, rfl, .inl ⟨ws, h0, .of h2 h3⟩⟩
      · rename_i kvs' e1
        cases e
        obtain ⟨o, ws, h0, h1, h2⟩ := (hr.own _ _ _ ea e1).1
        exact ⟨a, o, rfl, .inr ⟨ws, h0, h2⟩⟩
      · cases e
  · cases e
end
section
variable {X : Cx} {W : WX} {a b c e tg : Expr} {es rest : List Expr} {ra rb rc : RE} {ba bb : RB} {rs : RA} {pos p apos cpos : Pos} {wd : World} {K : Fg} {mg : Str → Option Value} {α β : List Addr} {F F1 H H1 : Hp} {S : Sto}
theorem pid_items {elts : List Expr} {kk : Nat} {tpos : Pos} (ha : PD X W e ra) (hbase : attributeBase e "items" X.env (eval e X.env) = eval e X.env := by rfl) (hline : (apos.endLine == cpos.line) = true := by rfl) :
    PId X W (.Tuple elts kk tpos) (.Call (.Attribute e "items" apos) [] [] cpos) (rItems ra) := by
  obtain ⟨t, p1, s1⟩ := ha.ex
  refine ⟨_, pi_itemsU p1 hbase hline, fun α F σ H δ S Q hr hs h => ?_⟩
  refine s1 α F σ H δ S _ hr hs (wp.bind h fun d S1 e1 x H1 β F1 r1 q1 v1 h1 => ?_)
  obtain ⟨ds, e2, h2⟩ := wp.lift h1
  obtain ⟨kvs, e3, rfl⟩ := Option.map_eq_some_iff.mp e2
  obtain ⟨l, o, rfl, q⟩ := r1.locked v1 e3
  refine ⟨l, o, rfl, ?_⟩
  rcases q with ⟨ws, g1, g2⟩ | ⟨xs, g1, g2⟩
  · exact .inl ⟨ws, r1.sub _ _ g1, h2.now r1 (it_items g1 g2)⟩
  · exact .inr ⟨xs, r1.sub _ _ g1, h2.now r1 (it_itemsN g1 g2)⟩
theorem pid_keys (ha : PD X W e ra) : PId X W tg e (rKeys ra) := by
  obtain ⟨t, p1, s1⟩ := ha.ex
  refine ⟨_, pi_keysU p1, fun α F σ H δ S Q hr hs h => ?_⟩
  refine s1 α F σ H δ S _ hr hs (wp.bind h fun d S1 e1 x H1 β F1 r1 q1 v1 h1 => ?_)
  obtain ⟨ds, e2, h2⟩ := wp.lift h1
  obtain ⟨kvs, e3, rfl⟩ := Option.map_eq_some_iff.mp e2
  obtain ⟨l, o, rfl, q⟩ := r1.locked v1 e3
  refine ⟨l, o, rfl, ?_⟩
  rcases q with ⟨ws, g1, g2⟩ | ⟨xs, g1, g2⟩
  · exact .inl ⟨ws, r1.sub _ _ g1, h2.now r1 (it_keys g1 g2)⟩
  · exact .inr ⟨xs, r1.sub _ _ g1, h2.now r1 (it_keysN g1 g2)⟩
end
end DL

set_option Elab.async false
set_option linter.all false
set_option maxRecDepth 100000
set_option maxHeartbeats 4000000
set_option autoImplicit false
/-! Data layer: a statement done while a dict is locked; what is never reached. -/
namespace DL
open PySem PySem.Spec PyProof.Rows L2

def isSq : HO → Prop
  | .tup _ => True
  | .lst _ => True
  | .frz _ (.tup _) => True
  | .frz _ (.lst _) => True
  | _ => False
/-- lists and tuples stay -/
def SubS (F F' : Hp) : Prop := ∀ a u, F a = some u → isSq u → F' a = some u
theorem SubS.t {F F' : Hp} (s : SubS F F') {a : Addr} {xs : List V} (h : Rd F a (.tup xs)) : Rd F' a (.tup xs) := h.imp (fun e => s _ _ e trivial) fun ⟨o, e⟩ => ⟨o, s _ _ e trivial⟩
theorem SubS.l {F F' : Hp} (s : SubS F F') {a : Addr} {xs : List V} (h : Rd F a (.lst xs)) : Rd F' a (.lst xs) := h.imp (fun e => s _ _ e trivial) fun ⟨o, e⟩ => ⟨o, s _ _ e trivial⟩
section
variable {wd : World} {K : Fg} {mg : Str → Option Value} {α β : List Addr} {F F' H H1 : Hp} {S : Sto}
mutual
theorem DV.stay {v : V} {d : D} (s : SubS F F') : DV wd K mg F α v d → DV wd K mg F' α v d
  | .non => .non
  | .bl b => .bl b
  | .int i => .int i
  | .str x => .str x
  | .tup h t => .tup ⟨h.1.imp s.t id, h.2.imp (fun ⟨o, e, q⟩ => ⟨o, s _ _ e trivial, q⟩) id⟩ (DVs.stay s t)
  | .tux h t => .tux (h.imp s.t id) (DVs.stay s t)
  | .lst h t => .lst (h.imp s.l id) (DVs.stay s t)
  | .ptr h => .ptr h
  | .fn h => .fn h
  | .ty n => .ty n
theorem DVs.stay {vs : List V} {ds : List D} (s : SubS F F') : DVs wd K mg F α vs ds → DVs wd K mg F' α vs ds
  | .nil => .nil
  | .cons h t => .cons (DV.stay s h) (DVs.stay s t)
end
theorem NVs.stay {xs : List (NestedKey × Addr × V)} {kvs : List (D × D)} (s : SubS F F') (h : NVs wd K mg F α xs kvs) : NVs wd K mg F' α xs kvs := by
  induction h with
  | nil => exact .nil
  | cons h1 h2 h3 h4 h5 _ ih => exact .cons h1 h2 (h3.stay s) h4 (h5.stay s) ih
/-- what may be locked -/
def Lkd (wd : World) (a : Addr) (u : HO) : Prop := (∃ ws, u = .dK ws) ∨ ∃ xs, u = dN wd a xs
theorem Lkd.mut {a : Addr} {u : HO} (h : Lkd wd a u) : Mut (some u) := by
  rcases h with ⟨ws, rfl⟩ | ⟨xs, rfl⟩ <;> exact True.intro
/-- F without a -/
def erase (F : Hp) (a : Addr) : Hp := fun b => if b = a then none else F b
theorem erase_same {a : Addr} : erase F a a = none := by unfold erase; rw [if_pos rfl]
theorem erase_ne {a b : Addr} (h : b ≠ a) : erase F a b = F b := by unfold erase; rw [if_neg h]
theorem erase_stay {a : Addr} {o : Obj} {u : HO} (h : F a = some (.frz o u)) (hu : Lkd wd a u) : SubS F (erase F a) := by
  intro b v e q
  have z : b ≠ a := fun z => by
    subst z
    rw [h] at e
    cases e
    rcases hu with ⟨ws, rfl⟩ | ⟨ys, rfl⟩ <;> exact q
  rw [erase_ne z]; exact e
theorem Own.toLck {a : Addr} {d : D} {u : HO} (od : Obj) (h : Own wd K mg F α H a d) (hF : F a = none) (hu : H a = some u) (hl : Lkd wd a u) (hd : (∃ kvs, d = .dct kvs) ∨ ∃ kvs, d = .dcn kvs) :
    Own wd K mg (upd F a (.frz od u)) α (upd H a (.frz od u)) a (.lck d) := by
  have sb : Sub F (upd F a (.frz od u)) := Sub.new hF
  rcases hd with ⟨kvs, rfl⟩ | ⟨kvs, rfl⟩
  · obtain ⟨ws, h1, h2, h3⟩ := h
    rw [hu] at h1
    cases h1
    have h4 := h3.mono (β := []) sb
    rw [List.append_nil] at h4
    exact ⟨od, ws, upd_same, upd_same, h2, h4⟩
  · obtain ⟨xs, h1, h2⟩ := h
    rw [hu] at h1
    cases h1
    have h4 := h2.mono (β := []) sb
    rw [List.append_nil] at h4
    exact ⟨od, xs, upd_same, upd_same, h4⟩
/-- the thing at k is locked -/
theorem Rel.lock (r : Rel wd K mg α F H S) {k : Nat} {a : Addr} {u : HO} {d : D} (od : Obj) (h1 : α[k]? = some a) (h2 : S[k]? = some d) (hd : (∃ kvs, d = .dct kvs) ∨ ∃ kvs, d = .dcn kvs) (hu : H a = some u) (hl : Lkd wd a u) :
    Rel wd K mg α (upd F a (.frz od u)) (upd H a (.frz od u)) (S.set k (.lck d)) ∧ Sub F (upd F a (.frz od u)) ∧ F a = none := by
  obtain ⟨o1, o2⟩ := r.own k a d h1 h2
  have hF : F a = none := o2 (by rcases hd with ⟨_, rfl⟩ | ⟨_, rfl⟩ <;> rfl)
  have sb : Sub F (upd F a (.frz od u)) := Sub.new hF
  have hn := r.nd
  refine ⟨⟨fun b v e => ?_, by rw [List.length_set]; exact r.len, r.nd, fun b hb => ?_, fun j b e g1 g2 => ?_⟩, sb, hF⟩
  · by_cases z : b = a
    · subst z; rw [upd_same] at e ⊢; exact e
    · rw [upd_ne z] at e ⊢; exact r.sub _ _ e
  · by_cases z : b = a
    · subst z; exact ⟨_, upd_same⟩
    · obtain ⟨v, e⟩ := r.here b hb
      exact ⟨v, by rw [upd_ne z]; exact e⟩
  · by_cases z : j = k
    · subst z
      rw [h1] at g1; cases g1
      rw [List.getElem?_set_self (List.getElem?_eq_some_iff.mp h2).1] at g2
      cases g2
      exact ⟨Own.toLck od o1 hF hu hl hd, fun z => by cases z⟩
    · rw [List.getElem?_set_ne (Ne.symm z)] at g2
      obtain ⟨h3, h4⟩ := r.own j b e g1 g2
      have y : b ≠ a := fun y => by
        subst y
        exact z ((List.getElem_inj hn).mp ((List.getElem?_eq_some_iff.mp g1).2.trans (List.getElem?_eq_some_iff.mp h1).2.symm))
      have h5 := h3.mono (β := []) (H' := upd H a (.frz od u)) sb (upd_ne y)
      rw [List.append_nil] at h5
      exact ⟨h5, fun hd => by rw [upd_ne y]; exact h4 hd⟩
/-- and let go again -/
theorem Rel.unlock (r : Rel wd K mg α F H S) {k : Nat} {a : Addr} {u : HO} {od : Obj} {d : D} (h1 : α[k]? = some a) (h2 : S[k]? = some (.lck d)) (hF : F a = some (.frz od u)) (hl : Lkd wd a u) :
    Rel wd K mg α (erase F a) (upd H a u) (S.set k d) := by
  have st : SubS F (erase F a) := erase_stay hF hl
  have hH : H a = some (.frz od u) := r.sub _ _ hF
  have hn := r.nd
  refine ⟨fun b v e => ?_, by rw [List.length_set]; exact r.len, r.nd, fun b hb => ?_, fun j b e g1 g2 => ?_⟩
  · by_cases z : b = a
    · subst z; rw [erase_same] at e; cases e
    · rw [erase_ne z] at e; rw [upd_ne z]; exact r.sub _ _ e
  · by_cases z : b = a
    · subst z; exact ⟨_, upd_same⟩
    · obtain ⟨v, e⟩ := r.here b hb
      exact ⟨v, by rw [upd_ne z]; exact e⟩
  · by_cases z : j = k
    · subst z
      rw [h1] at g1; cases g1
      rw [List.getElem?_set_self (List.getElem?_eq_some_iff.mp h2).1] at g2
      cases g2
      obtain ⟨o1, _⟩ := r.own j a _ h1 h2
      refine ⟨?_, fun _ => erase_same⟩
      cases d with
      | dct kvs =>
        obtain ⟨o, ws, q0, q1, q2, q3⟩ := o1
        rw [hF] at q0
        cases q0
        exact ⟨ws, upd_same, q2, q3.stay st⟩
      | dcn kvs =>
        obtain ⟨o, xs, q0, q1, q2⟩ := o1
        rw [hF] at q0
        cases q0
        exact ⟨xs, upd_same, q2.stay st⟩
      | _ => exact o1.elim
    · rw [List.getElem?_set_ne (Ne.symm z)] at g2
      obtain ⟨h3, h4⟩ := r.own j b e g1 g2
      have y : b ≠ a := fun y => by
        subst y
        exact z ((List.getElem_inj hn).mp ((List.getElem?_eq_some_iff.mp g1).2.trans (List.getElem?_eq_some_iff.mp h1).2.symm))
      refine ⟨?_, fun hd => by rw [erase_ne y]; exact h4 hd⟩
      cases e with
      | lst ds => obtain ⟨xs, q1, q2⟩ := h3; exact ⟨xs, by rw [upd_ne y]; exact q1, q2.stay st⟩
      | dct kvs => obtain ⟨ws, q1, q2, q3⟩ := h3; exact ⟨ws, by rw [upd_ne y]; exact q1, q2, q3.stay st⟩
      | dcn kvs => obtain ⟨ws, q1, q2⟩ := h3; exact ⟨ws, by rw [upd_ne y]; exact q1, q2.stay st⟩
      | lck e =>
        cases e with
        | dct kvs => obtain ⟨o, ws, q0, q1, q2, q3⟩ := h3; exact ⟨o, ws, by rw [erase_ne y]; exact q0, by rw [upd_ne y]; exact q1, q2, q3.stay st⟩
        | dcn kvs => obtain ⟨o, ws, q0, q1, q2⟩ := h3; exact ⟨o, ws, by rw [erase_ne y]; exact q0, by rw [upd_ne y]; exact q1, q2.stay st⟩
        | _ => exact h3.elim
      | non => trivial
      | _ => exact h3.elim
theorem Stp.lock {a : Addr} {u : HO} {od : Obj} {F2 H2 : Hp} (s : Stp α (upd F a (.frz od u)) (upd H a (.frz od u)) β F2 H2) (hF : F a = none) (hu : H a = some u) (ha : a ∈ α) : Stp α F H β (erase F2 a) (upd H2 a u) := by
  refine ⟨fun b hb => upd_none (s.new b hb), fun b v e => ?_, fun b o hb e => ?_, fun b e => ?_, fun b h1 h2 h3 => ?_⟩
  · have z : b ≠ a := fun z => by subst z; rw [hF] at e; cases e
    rw [erase_ne z]
    exact s.sub _ _ (by rw [upd_ne z]; exact e)
  · have z : b ≠ a := fun z => hb (z ▸ ha)
    rw [upd_ne z]
    exact s.frame b o hb (by rw [upd_ne z]; exact e)
  · have z : b ≠ a := fun z => by subst z; rw [upd_same] at e; cases e
    rw [upd_ne z] at e
    have := s.live b e
    rw [upd_ne z] at this
    exact this
  · have z : b ≠ a := fun z => h1 (z ▸ ha)
    rw [erase_ne z]
    exact s.fnew b h1 (by rw [upd_ne z]; exact h2) (by rw [upd_ne z]; exact h3)
theorem Slots.stay {σ : L2.St} {δ : Sl} (s : SubS F F') (h : Slots wd K mg F α σ δ) : Slots wd K mg F' α σ δ := ⟨h.1, fun i d e => let ⟨v, h1, h2⟩ := h.2 i d e; ⟨v, h1, h2.stay s⟩⟩
end
/-- the dict that slot i holds, if it is open -/
def lockAt (δ : Sl) (S : Sto) (i : Nat) : Option (Nat × D) := match δ[i]? with
  | some (some (.ptr k)) => (match S[k]? with
    | some (.dct kvs) => some (k, .dct kvs)
    | some (.dcn kvs) => some (k, .dcn kvs)
    | _ => none)
  | _ => none
def unlk (k : Nat) (S : Sto) : Option Sto := match S[k]? with
  | some (.lck d) => some (S.set k d)
  | _ => none
def unlkO (k : Nat) : Out → Out
  | .nx δ S => (match unlk k S with | some S' => .nx δ S' | none => .stuck)
  | .rt d S => (match unlk k S with | some S' => .rt d S' | none => .stuck)
  | .bk δ S => (match unlk k S with | some S' => .bk δ S' | none => .stuck)
  | .ct δ S => (match unlk k S with | some S' => .ct δ S' | none => .stuck)
  | o => o
/-- the dict of slot i is locked meanwhile -/
def sLock (i : Nat) (r : RS) : RS := fun δ S => match lockAt δ S i with
  | some (k, d) => unlkO k (r δ (S.set k (.lck d)))
  | none => r δ S
section
variable {X : Cx} {W : WX} {st : Stmt} {e : Expr} {r : RS} {ra : RE} {wd : World} {K : Fg} {mg : Str → Option Value} {α β : List Addr} {F F' H H1 : Hp} {S : Sto}
/-- locked, or not -/
def tMay (t : TS) : TS := fun D σ H => t D σ H ∨ tLock t D σ H
theorem ps_may {t : TS} (h : PS X st t) : PS X st (tMay t) := ⟨fun pins s σ H D I q => q.elim (h.run pins s σ H D I) ((ps_lock h).run pins s σ H D I)⟩
theorem psd_lock (i : Nat) (h : PSd X W st r) : PSd X W st (sLock i r) := by
  obtain ⟨t, p1, s1⟩ := h.ex
  refine ⟨_, ps_may p1, fun α F σ H δ S E hr hs q => ?_⟩
  unfold sLock at q
  split at q
  · rename_i k d e1
    refine .inr ?_
    unfold lockAt at e1
    split at e1
    · rename_i k' e2
      obtain ⟨v, g1, g2⟩ := hs.2 i _ e2
      cases g2 with
      | @ptr _ a ea =>
        have key : ∃ d', S[k']? = some d' ∧ k = k' ∧ d = d' ∧ ((∃ kvs, d' = .dct kvs) ∨ ∃ kvs, d' = .dcn kvs) := by
          split at e1
          · rename_i kvs e3; cases e1; exact ⟨_, e3, rfl, rfl, .inl ⟨_, rfl⟩⟩
          · rename_i kvs e3; cases e1; exact ⟨_, e3, rfl, rfl, .inr ⟨_, rfl⟩⟩
          · cases e1
        obtain ⟨d', e3, rfl, rfl, hd⟩ := key
        clear e1
        obtain ⟨o1, o2⟩ := hr.own _ _ _ ea e3
        obtain ⟨u, hu, hl⟩ : ∃ u, H a = some u ∧ Lkd X.w a u := by
          rcases hd with ⟨kvs, rfl⟩ | ⟨kvs, rfl⟩
          · obtain ⟨ws, q1, _⟩ := o1; exact ⟨_, q1, .inl ⟨ws, rfl⟩⟩
          · obtain ⟨xs, q1, _⟩ := o1; exact ⟨_, q1, .inr ⟨xs, rfl⟩⟩
        refine ⟨a, u, hu, hl.mut, fun od => ?_⟩
        obtain ⟨r1, sb, hF⟩ := hr.lock od ea e3 hd hu hl
        have hs1 := hs.mono (β := []) sb
        rw [List.append_nil] at hs1
        have ha : a ∈ α := List.mem_of_getElem? ea
        refine s1 α _ σ _ δ _ _ r1 hs1 ?_
        have fin : ∀ {S' : Sto} {β : List Addr} {F' H' : Hp}, Rel X.w X.K X.mg (α ++ β) F' H' S' → Stp α (upd F a (.frz od u)) (upd H a (.frz od u)) β F' H' → ∀ S2, unlk k S' = some S2 →
            H' a = some (.frz od u) ∧ Rel X.w X.K X.mg (α ++ β) (erase F' a) (upd H' a u) S2 ∧ Stp α F H β (erase F' a) (upd H' a u) ∧ SubS F' (erase F' a) := by
          intro S' β F' H' r2 st2 S2 e4
          have f1 : F' a = some (.frz od u) := st2.sub _ _ upd_same
          unfold unlk at e4
          split at e4
          · rename_i d2 e5
            cases e4
            exact ⟨r2.sub _ _ f1, r2.unlock (at_app ea) e5 f1 hl, st2.lock hF hu ha, erase_stay f1 hl⟩
          · cases e4
        cases c : r δ (S.set k (.lck d)) with
        | nx δ' S' =>
          rw [c] at q
          intro σ' H' β F' r2 st2 sl2
          unfold unlkO at q
          dsimp only at q
          split at q
          · rename_i S2 e4
            obtain ⟨f1, f2, f3, f4⟩ := fin r2 st2 S2 e4
            exact ⟨f1, q _ _ _ _ f2 f3 (sl2.stay f4)⟩
          · exact q.elim
        | rt v S' =>
          rw [c] at q
          intro σ' H' β F' r2 st2 sl2
          unfold unlkO at q
          dsimp only at q
          split at q
          · rename_i S2 e4
            obtain ⟨f1, f2, f3, f4⟩ := fin r2 st2 S2 e4
            exact ⟨f1, q _ _ _ _ f2 f3 (sl2.stay f4)⟩
          · exact q.elim
        | bk δ' S' =>
          rw [c] at q
          intro σ' H' β F' r2 st2 sl2
          unfold unlkO at q
          dsimp only at q
          split at q
          · rename_i S2 e4
            obtain ⟨f1, f2, f3, f4⟩ := fin r2 st2 S2 e4
            exact ⟨f1, q _ _ _ _ f2 f3 (sl2.stay f4)⟩
          · exact q.elim
        | ct δ' S' =>
          rw [c] at q
          intro σ' H' β F' r2 st2 sl2
          unfold unlkO at q
          dsimp only at q
          split at q
          · rename_i S2 e4
            obtain ⟨f1, f2, f3, f4⟩ := fin r2 st2 S2 e4
            exact ⟨f1, q _ _ _ _ f2 f3 (sl2.stay f4)⟩
          · exact q.elim
        | err cl fs δ' S' =>
          rw [c] at q
          intro cls dd σ' H' β F' r2 st2 sl2 er
          refine q cls dd σ' H' β F' r2 ⟨fun b hb => upd_none (st2.new b hb), sb.trans st2.sub, fun b o hb e => ?_, fun b e => upd_none (st2.live b e), fun b h1 h2 h3 => ?_⟩ sl2 er
          · have z : b ≠ a := fun z => hb (z ▸ ha)
            exact st2.frame b o hb (by rw [upd_ne z]; exact e)
          · have z : b ≠ a := fun z => h1 (z ▸ ha)
            exact st2.fnew b h1 (by rw [upd_ne z]; exact h2) (by rw [upd_ne z]; exact h3)
        | stuck => rw [c] at q; exact q.elim
    · cases e1
  · exact .inl (s1 α F σ H δ S E hr hs q)
/-- what is never reached -/
def rNever : RE := fun _ _ => .stuck
theorem pd_never : PD X W e rNever := ⟨fun _ _ _ => False, ⟨fun _ _ _ _ _ _ h => h.elim⟩, fun α F σ H δ S Q hr hs h => h⟩
end
end DL

set_option Elab.async false
set_option linter.all false
set_option maxRecDepth 100000
set_option maxHeartbeats 4000000
set_option autoImplicit false
/-! Data layer: order of data, sorting, the greatest and the least. -/
namespace DL
open PySem PySem.Spec PyProof.Rows L2

def notNone : PyData → Bool
  | .none => false
  | _ => true
/-- two data that may be compared -/
def twoD (S : Sto) (d e : D) : Option (PyData × PyData) := match toPy S (deref S d), toPy S (deref S e) with
  | some x, some y => if PySem.W.alike x y && (notNone x && decide (x.depth ≤ 40)) then some (x, y) else none
  | _, _ => none
def gLtU : Sto → D → D → Option D := fun S d e => match d, e with
  | .int i, .int j => some (.bl (decide (i < j)))
  | _, _ => (twoD S d e).map fun p => .bl (PySem.W.dataLt p.1 p.2)
def gLeU : Sto → D → D → Option D := fun S d e => match d, e with
  | .int i, .int j => some (.bl (decide (i ≤ j)))
  | _, _ => (twoD S d e).map fun p => .bl (!PySem.W.dataLt p.2 p.1)
def gGtU : Sto → D → D → Option D := fun S d e => match d, e with
  | .int i, .int j => some (.bl (decide (j < i)))
  | _, _ => (twoD S d e).map fun p => .bl (PySem.W.dataLt p.2 p.1)
def gGeU : Sto → D → D → Option D := fun S d e => match d, e with
  | .int i, .int j => some (.bl (decide (j ≤ i)))
  | _, _ => (twoD S d e).map fun p => .bl (!PySem.W.dataLt p.1 p.2)
def rCmp (K : Fg) (f : PyData → PyData → Bool) : R2 := fun x y H Q => ∃ d e, Dp K H x d ∧ Dp K H y e ∧ PySem.W.alike d e = true ∧ d ≠ .none ∧ d.depth ≤ 40 ∧ Q (.bl (f d e)) H
section
variable {X : Cx}
theorem op_ltU (hu : X.A.units + 64 < cLine) : OpR X (compareOp .Lt) (rCmp X.K PySem.W.dataLt) := by
  intro pins s σ H x y v u Q I rx ry h
  obtain ⟨d, e, hd, he, al, nn, dp, q⟩ := h
  obtain ⟨as, r1⟩ := Dp.reads I d x v hd rx
  obtain ⟨bs, r2⟩ := Dp.reads I e y u he ry
  exact PySem.W.lt_data r1 r2 al nn (by omega) ⟨.bl _, H, I, rfl, q⟩
theorem op_leU (hu : X.A.units + 64 < cLine) : OpR X (compareOp .LtE) (rCmp X.K fun d e => !PySem.W.dataLt e d) := by
  intro pins s σ H x y v u Q I rx ry h
  obtain ⟨d, e, hd, he, al, nn, dp, q⟩ := h
  obtain ⟨as, r1⟩ := Dp.reads I d x v hd rx
  obtain ⟨bs, r2⟩ := Dp.reads I e y u he ry
  exact PySem.W.le_data r1 r2 al nn (by omega) ⟨.bl _, H, I, rfl, q⟩
theorem op_gtU (hu : X.A.units + 64 < cLine) : OpR X (compareOp .Gt) (rCmp X.K fun d e => PySem.W.dataLt e d) := by
  intro pins s σ H x y v u Q I rx ry h
  obtain ⟨d, e, hd, he, al, nn, dp, q⟩ := h
  obtain ⟨as, r1⟩ := Dp.reads I d x v hd rx
  obtain ⟨bs, r2⟩ := Dp.reads I e y u he ry
  exact PySem.W.gt_data r1 r2 al nn (by omega) ⟨.bl _, H, I, rfl, q⟩
theorem op_geU (hu : X.A.units + 64 < cLine) : OpR X (compareOp .GtE) (rCmp X.K fun d e => !PySem.W.dataLt d e) := by
  intro pins s σ H x y v u Q I rx ry h
  obtain ⟨d, e, hd, he, al, nn, dp, q⟩ := h
  obtain ⟨as, r1⟩ := Dp.reads I d x v hd rx
  obtain ⟨bs, r2⟩ := Dp.reads I e y u he ry
  exact PySem.W.ge_data r1 r2 al nn (by omega) ⟨.bl _, H, I, rfl, q⟩
theorem alike_int (i j : Int) : PySem.W.alike (.int i) (.int j) = true := by simp [PySem.W.alike]
theorem depth_int (i : Int) : (PyData.int i).depth ≤ 40 := by simp [PyData.depth]
theorem cmpU {f : PyData → PyData → Bool} {g : Sto → D → D → Option D} {op : CmpOp} {h : Int → Int → Bool} (ho : OpR X (compareOp op) (rCmp X.K f)) (hi : ∀ i j, f (.int i) (.int j) = h i j)
    (hg : ∀ S d e z, g S d e = some z → (∃ i j, d = .int i ∧ e = .int j ∧ z = .bl (h i j)) ∨ ∃ p, twoD S d e = some p ∧ z = .bl (f p.1 p.2)) : OpG X (compareOp op) g := by
  refine ⟨_, ho, fun α F H S x y d e z Q hr hx hy hz q => ?_⟩
  rcases hg S d e z hz with ⟨i, j, rfl, rfl, rfl⟩ | ⟨p, h1, rfl⟩
  · cases hx; cases hy
    refine ⟨.int i, .int j, .int i, .int j, alike_int i j, by simp, depth_int i, ?_⟩
    rw [hi]
    exact fin_now hr (.bl _) q
  · unfold twoD at h1
    split at h1
    · rename_i x' y' e1 e2
      split at h1
      · rename_i hc
        cases h1
        rw [Bool.and_eq_true, Bool.and_eq_true] at hc
        exact ⟨x', y', hr.dp hx e1, hr.dp hy e2, hc.1, (by intro z; subst z; exact absurd hc.2.1 (by decide)), of_decide_eq_true hc.2.2, fin_now hr (.bl _) q⟩
      · cases h1
    · cases h1
theorem g_ltU (hu : X.A.units + 64 < cLine) : OpG X (compareOp .Lt) gLtU := cmpU (op_ltU hu) (h := fun i j => decide (i < j)) (fun i j => PySem.W.dataLt_int i j) fun S d e z hz => by
  unfold gLtU at hz
  split at hz
  · cases hz; exact .inl ⟨_, _, rfl, rfl, rfl⟩
  · obtain ⟨p, h1, h2⟩ := Option.map_eq_some_iff.mp hz
    exact .inr ⟨p, h1, h2.symm⟩
theorem g_gtU (hu : X.A.units + 64 < cLine) : OpG X (compareOp .Gt) gGtU := cmpU (op_gtU hu) (h := fun i j => decide (j < i)) (fun i j => PySem.W.dataLt_int j i) fun S d e z hz => by
  unfold gGtU at hz
  split at hz
  · cases hz; exact .inl ⟨_, _, rfl, rfl, rfl⟩
  · obtain ⟨p, h1, h2⟩ := Option.map_eq_some_iff.mp hz
    exact .inr ⟨p, h1, h2.symm⟩
theorem not_lt_le (i j : Int) : (!decide (j < i)) = decide (i ≤ j) := by
  by_cases h : j < i
  · rw [decide_eq_true h, decide_eq_false (by omega)]; rfl
  · rw [decide_eq_false h, decide_eq_true (by omega)]; rfl
theorem g_leU (hu : X.A.units + 64 < cLine) : OpG X (compareOp .LtE) gLeU := cmpU (op_leU hu) (h := fun i j => decide (i ≤ j)) (fun i j => by rw [PySem.W.dataLt_int]; exact not_lt_le i j) fun S d e z hz => by
  unfold gLeU at hz
  split at hz
  · cases hz; exact .inl ⟨_, _, rfl, rfl, rfl⟩
  · obtain ⟨p, h1, h2⟩ := Option.map_eq_some_iff.mp hz
    exact .inr ⟨p, h1, h2.symm⟩
theorem g_geU (hu : X.A.units + 64 < cLine) : OpG X (compareOp .GtE) gGeU := cmpU (op_geU hu) (h := fun i j => decide (j ≤ i)) (fun i j => by rw [PySem.W.dataLt_int]; exact not_lt_le j i) fun S d e z hz => by
  unfold gGeU at hz
  split at hz
  · cases hz; exact .inl ⟨_, _, rfl, rfl, rfl⟩
  · obtain ⟨p, h1, h2⟩ := Option.map_eq_some_iff.mp hz
    exact .inr ⟨p, h1, h2.symm⟩
end
/-! ### sorting -/
def tupFull : PyData → Bool
  | .tuple (_ :: _) => true
  | _ => false
def noTup : PyData → Bool
  | .none => false
  | .tuple _ => false
  | _ => true
def sortable (ps : List PyData) : Bool := (ps.all tupFull || ps.all noTup) && ((ps.all fun x => ps.all fun y => PySem.W.alike x y) && ps.all fun x => decide (x.depth ≤ 40))
def sortBy {A : Type} (xs : List A) (ps : List PyData) : List A := ((xs.zip ps).mergeSort (PySem.W.dataLe false (·.2))).map (·.1)
def sortD (S : Sto) (xs : List D) : Option (List D) := match toPys S xs with
  | some ps => if sortable ps && decide (xs.length ≤ sizeLine) then some (sortBy xs ps) else none
  | none => none
def gSorted : Sto → List D → Option D := fun S ds => match ds with
  | [d] => (match deref S d with
    | .lst xs => (sortD S xs).map .lst
    | _ => none)
  | _ => none
theorem sortBy_length {A : Type} {xs : List A} {ps : List PyData} (h : xs.length = ps.length) : (sortBy xs ps).length = xs.length := by
  unfold sortBy
  rw [List.length_map, List.length_mergeSort, List.length_zip, h, Nat.min_self]
section
open PySem.W
variable {wd : World} {K : Fg} {mg : Str → Option Value} {α β : List Addr} {F F1 H H1 : Hp} {S : Sto}
theorem dpAll_length {xs : List V} {ps : List PyData} (h : DpAll K H xs ps) : xs.length = ps.length := by
  match h with
  | .nil => rfl
  | .cons _ t => rw [List.length_cons, List.length_cons, dpAll_length t]
theorem zip_each {A B : Type} {R : A → B → Prop} : ∀ {as : List A} {bs : List B} (ps : List PyData), EachIs R as bs → EachIs (fun (x : A × PyData) (y : B × PyData) => R x.1 y.1 ∧ x.2 = y.2) (as.zip ps) (bs.zip ps)
  | _, _, _, .nil => .nil
  | _, _, [], .cons _ _ => .nil
  | _, _, p :: ps, .cons h t => .cons ⟨h, rfl⟩ (zip_each ps t)
theorem each_map2 {A B A' B' : Type} {R : A → B → Prop} {R' : A' → B' → Prop} (f : A → A') (g : B → B') (h : ∀ a b, R a b → R' (f a) (g b)) : ∀ {as : List A} {bs : List B}, EachIs R as bs → EachIs R' (as.map f) (bs.map g)
  | _, _, .nil => .nil
  | _, _, .cons a t => .cons (h _ _ a) (each_map2 f g h t)
/-- things sorted by the same data -/
theorem sortBy_each {A B : Type} {R : A → B → Prop} {as : List A} {bs : List B} (ps : List PyData) (h : EachIs R as bs) : EachIs R (sortBy as ps) (sortBy bs ps) := by
  unfold sortBy
  have z := zip_each ps h
  refine each_map2 (·.1) (·.1) (fun a b q => q.1) (sort_each z ?_)
  intro p hp q hq
  have e1 := (EachIs.zip z p hp).2
  have e2 := (EachIs.zip z q hq).2
  unfold dataLe sortLe
  dsimp only
  rw [e1, e2]
theorem each_dvs : ∀ {us : List V} {ds : List D}, EachIs (fun v d => DV wd K mg F α v d) us ds → DVs wd K mg F α us ds
  | _, _, .nil => .nil
  | _, _, .cons h t => .cons h (each_dvs t)
theorem dvs_each : ∀ {us : List V} {ds : List D}, DVs wd K mg F α us ds → EachIs (fun v d => DV wd K mg F α v d) us ds
  | _, _, .nil => .nil
  | _, _, .cons h t => .cons h (dvs_each t)
theorem DVs.sort {us : List V} {ds : List D} (h : DVs wd K mg F α us ds) (ps : List PyData) : DVs wd K mg F α (sortBy us ps) (sortBy ds ps) := each_dvs (sortBy_each ps (dvs_each h))
end
def rSortU (X : Cx) : List V → Hp → VK → Prop := fun vs H Q => ∃ (a : Addr) (us : List V) (ps : List PyData), vs = [.ref a] ∧ SqL X.K H a us ∧ DpAll X.K H us ps ∧ sortable ps = true ∧ us.length ≤ sizeLine ∧ Lays H (sortBy us ps) Q
section
open PySem.W
variable {X : Cx} {W : WX} {a b c e tg : Expr} {es rest : List Expr} {ra rb rc : RE} {rs : RA} {pos p : Pos}
theorem vals_each {s : Shared} {σ : L2.St} {H : Hp} {pins : List (Addr × Obj)} (I : Inv X pins σ H s) : ∀ {us : List V} {ps : List PyData} {vs : List Value}, DpAll X.K H us ps → Vals us vs →
    EachIs (fun u (b : V × PyData) => RelV b.1 u) vs (us.zip ps) ∧ EachIs (fun u (b : V × PyData) => ∃ as, Reads s.heap u b.2 as) vs (us.zip ps)
  | _, _, _, .nil, r => by cases r; exact ⟨.nil, .nil⟩
  | _, _, _, .cons h t, r => by
    cases r with
    | cons r1 r2 =>
      obtain ⟨h1, h2⟩ := vals_each I t r2
      exact ⟨.cons r1 h1, .cons (Dp.reads I _ _ _ h r1) h2⟩
theorem each_vals : ∀ {us : List V} {vs : List Value}, EachIs (fun u v => RelV v u) vs us → Vals us vs
  | _, _, .nil => .nil
  | _, _, .cons h t => .cons h (each_vals t)
theorem cr_sortU (hu : X.A.units + 64 < cLine) : CallR X (.builtin "sorted") (rSortU X) := by
  intro pins s σ H vs us Q I r h
  obtain ⟨a, xs, ps, rfl, hs, hd, hk, hl, q⟩ := h
  obtain ⟨its, rv, pl, _⟩ := I.list hs
  rw [Vals.ref1 r]
  obtain ⟨e1, e2⟩ := vals_each I hd rv
  unfold sortable at hk
  rw [Bool.and_eq_true, Bool.and_eq_true, Bool.or_eq_true] at hk
  obtain ⟨k1, k2, k3⟩ := hk
  have ml : (xs.zip ps).map (·.2) = ps := List.map_snd_zip (by rw [(dpAll_length hd)]; exact Nat.le_refl _)
  have hal : AllAlike ((xs.zip ps).map (·.2)) := by
    rw [ml]
    intro d hd d' hd'
    exact List.all_eq_true.mp (List.all_eq_true.mp k2 d hd) d' hd'
  have hso : Sortable ((xs.zip ps).map (·.2)) := by
    rw [ml]
    rcases k1 with k1 | k1
    · refine .inl fun d hd => ?_
      have := List.all_eq_true.mp k1 d hd
      match d, this with
      | .tuple (x :: r), _ => exact ⟨x, r, rfl⟩
    · refine .inr fun d hd => ?_
      have := List.all_eq_true.mp k1 d hd
      refine ⟨fun z => ?_, fun xs z => ?_⟩ <;> subst z <;> exact absurd this (by simp [noTup])
  refine sorted_data (enc := fun b : V × PyData => b.2) pl.isList e1 e2 hal hso (by rw [List.length_zip, (dpAll_length hd), Nat.min_self, ← (dpAll_length hd)]; exact hl) (fun b hb => ?_) fun out h1 h2 => ?_
  · have := of_decide_eq_true (List.all_eq_true.mp k3 b.2 (by rw [← ml]; exact List.mem_map.mpr ⟨b, hb, rfl⟩))
    omega
  · obtain ⟨ep, he'⟩ := PyProof.Rows.sortedAll_at s.heap its (List.toArray out)
    have hv : Vals (sortBy xs ps) out := each_vals (by
      have := each_map2 (R' := fun u v => RelV v u) (fun x => x) (fun b : V × PyData => b.1) (fun _ _ q => q) h2
      rw [List.map_id'] at this
      exact this)
    have hlen : (sortBy xs ps).length ≤ sizeLine := by rw [sortBy_length (dpAll_length hd)]; exact hl
    exact ⟨.ref _, upd H (s.heap.objs.size + 1) (.lst (sortBy xs ps)), I.laid (t' := s.toks) (fun _ _ => PyProof.Rows.sortedAll_old) (Nat.le_succ _) ⟨hlen, out, ep, hv, he'⟩, rfl, q _ (I.hok.fresh (Nat.le_succ _))⟩
/-- by a call of a built-in -/
theorem pf_callB {x : Str} {T : String} {g : Sto → List D → Option D} {r : List V → Hp → VK → Prop} (hc : CallR X (.builtin T) r) (hgk : ∀ α F H S xs ds z Q, Rel X.w X.K X.mg α F H S → DVs X.w X.K X.mg F α xs ds → g S ds = some z → ∃ es us, z = .lst es ∧ DVs X.w X.K X.mg F α us es ∧ (Lays H us Q → r xs H Q))
    (hm : X.mg x = none) (ha : PDs X W (e :: es) rs) (hg : Gl X x := by rfl) (hv : bootBuiltins x = some (.builtin T) := by decide +kernel) (hn : x ≠ "__name__" := by decide) (hdb : (x == ("__debug__" : Str)) = false := by decide)
    (he : starEach (e :: es) X.env = (false, eval e X.env) :: starEach es X.env := by rfl) (hpl : (backTo pos (starEach es X.env)).any (·.1) = false := by rfl) : PF X W (.Call (.Name x p) (e :: es) [] pos) (rAs g rs) := by
  obtain ⟨t, pt, st⟩ := ha.ex
  refine ⟨_, pe_callB hc hg hm hv pt hn hdb he hpl, fun α F σ H δ S Q hr hs h => ?_⟩
  refine st α F σ H δ S _ hr hs (wpF.bind h fun ds S1 _ xs H1 β F1 r1 q1 v1 h1 => ?_)
  cases eg : g S1 ds with
  | none => rw [eg] at h1; exact h1.elim
  | some z =>
    rw [eg] at h1
    obtain ⟨es', us, rfl, e1, e2⟩ := hgk _ F1 H1 S1 xs ds z Q r1 v1 eg
    exact e2 fun p hp => wpF.lay h1 r1 hp ⟨us, upd_same, e1⟩ rfl
theorem pf_sorted (hu : X.A.units + 64 < cLine) (hm : X.mg "sorted" = none) (ha : PDs X W (e :: es) rs) (hg : Gl X "sorted" := by rfl) (he : starEach (e :: es) X.env = (false, eval e X.env) :: starEach es X.env := by rfl) (hpl : (backTo pos (starEach es X.env)).any (·.1) = false := by rfl) :
    PF X W (.Call (.Name "sorted" p) (e :: es) [] pos) (rAs gSorted rs) := pf_callB (cr_sortU hu) (fun α F H S xs ds z Q hr hv hz => by
  unfold gSorted at hz
  split at hz
  · cases hv with
    | cons h1 h2 =>
      cases h2
      split at hz
      · rename_i ys e1
        obtain ⟨zs, e2, rfl⟩ := Option.map_eq_some_iff.mp hz
        obtain ⟨l, us, rfl, a1, a2⟩ := hr.viewL h1 e1
        unfold sortD at e2
        split at e2
        · rename_i ps e3
          split at e2
          · rename_i hc
            cases e2
            rw [Bool.and_eq_true] at hc
            exact ⟨_, sortBy us ps, rfl, a2.sort ps, fun q => ⟨l, us, ps, rfl, a1, a2.dp e3 hr.sub, hc.1, by rw [a2.length]; exact of_decide_eq_true hc.2, q⟩⟩
          · cases e2
        · cases e2
      · cases hz
  · cases hz) hm ha hg (by decide +kernel) (by decide) (by decide) he hpl
end
/-! ### the greatest and the least of numbers -/
def maxI : List Int → Option Int
  | [] => none
  | i :: r => some (r.foldl max i)
def minI : List Int → Option Int
  | [] => none
  | i :: r => some (r.foldl min i)
theorem foldl_max : ∀ (r : List Int) (i : Int), (r.foldl max i = i ∨ r.foldl max i ∈ r) ∧ i ≤ r.foldl max i ∧ ∀ y ∈ r, y ≤ r.foldl max i
  | [], i => ⟨.inl rfl, by simp, fun _ h => nomatch h⟩
  | a :: r, i => by
    obtain ⟨h1, h2, h3⟩ := foldl_max r (max i a)
    rw [List.foldl_cons]
    refine ⟨?_, by omega, fun y hy => ?_⟩
    · rcases h1 with h1 | h1
      · rcases Int.le_total i a with h | h
        · right; rw [h1, Int.max_eq_right h]; exact List.mem_cons_self
        · left; rw [h1, Int.max_eq_left h]
      · exact .inr (List.mem_cons_of_mem _ h1)
    · rcases List.mem_cons.mp hy with rfl | hy
      · omega
      · exact h3 y hy
theorem foldl_min : ∀ (r : List Int) (i : Int), (r.foldl min i = i ∨ r.foldl min i ∈ r) ∧ r.foldl min i ≤ i ∧ ∀ y ∈ r, r.foldl min i ≤ y
  | [], i => ⟨.inl rfl, by simp, fun _ h => nomatch h⟩
  | a :: r, i => by
    obtain ⟨h1, h2, h3⟩ := foldl_min r (min i a)
    rw [List.foldl_cons]
    refine ⟨?_, by omega, fun y hy => ?_⟩
    · rcases h1 with h1 | h1
      · rcases Int.le_total i a with h | h
        · left; rw [h1, Int.min_eq_left h]
        · right; rw [h1, Int.min_eq_right h]; exact List.mem_cons_self
      · exact .inr (List.mem_cons_of_mem _ h1)
    · rcases List.mem_cons.mp hy with rfl | hy
      · omega
      · exact h3 y hy
theorem maxI_of {ns : List Int} {m : Int} (h1 : m ∈ ns) (h2 : ∀ y ∈ ns, y ≤ m) : maxI ns = some m := by
  cases ns with
  | nil => cases h1
  | cons i r =>
    obtain ⟨g1, g2, g3⟩ := foldl_max r i
    have a : m ≤ r.foldl max i := by
      rcases List.mem_cons.mp h1 with rfl | h
      · exact g2
      · exact g3 m h
    have b : r.foldl max i ≤ m := by
      rcases g1 with g | g
      · rw [g]; exact h2 i List.mem_cons_self
      · exact h2 _ (List.mem_cons_of_mem _ g)
    exact congrArg some (Int.le_antisymm b a)
theorem minI_of {ns : List Int} {m : Int} (h1 : m ∈ ns) (h2 : ∀ y ∈ ns, m ≤ y) : minI ns = some m := by
  cases ns with
  | nil => cases h1
  | cons i r =>
    obtain ⟨g1, g2, g3⟩ := foldl_min r i
    have a : r.foldl min i ≤ m := by
      rcases List.mem_cons.mp h1 with rfl | h
      · exact g2
      · exact g3 m h
    have b : m ≤ r.foldl min i := by
      rcases g1 with g | g
      · rw [g]; exact h2 i List.mem_cons_self
      · exact h2 _ (List.mem_cons_of_mem _ g)
    exact congrArg some (Int.le_antisymm a b)
def gMax : Sto → List D → Option D := fun S ds => match ds with
  | [d] => (match deref S d with
    | .lst xs => (asInts xs).bind fun ns => (maxI ns).map .int
    | _ => none)
  | [.int i, .int j] => some (.int (if j > i then j else i))
  | _ => none
def gMin : Sto → List D → Option D := fun S ds => match ds with
  | [d] => (match deref S d with
    | .lst xs => (asInts xs).bind fun ns => (minI ns).map .int
    | _ => none)
  | [.int i, .int j] => some (.int (if j < i then j else i))
  | _ => none
section
variable {X : Cx}
theorem b_max (hc : X.calm = true) : BiG X (.builtin "max") gMax := by
  refine ⟨_, (cr_max hc).or (call_max2 hc), fun α F H S xs ds z Q hr hv hz q => ?_⟩
  unfold gMax at hz
  split at hz
  · cases hv with
    | cons h1 h2 =>
      cases h2
      split at hz
      · rename_i ys e1
        obtain ⟨ns, e2, e3⟩ := Option.bind_eq_some_iff.mp hz
        obtain ⟨m, e4, rfl⟩ := Option.map_eq_some_iff.mp e3
        obtain ⟨l, us, rfl, a1, a2⟩ := hr.viewL h1 e1
        have := asInts_eq e2
        subst this
        have := DVs.ints a2
        subst this
        refine .inl ⟨l, ns, rfl, a1, ?_, fun m' g1 g2 => ?_⟩
        · cases ns with
          | nil => cases e4
          | cons _ _ => exact Nat.succ_pos _
        · rw [maxI_of g1 g2] at e4
          cases e4
          exact fin_now hr (.int _) q
      · cases hz
  · cases hz
    cases hv with
    | cons h1 h2 => cases h2 with
      | cons h2 h3 => cases h1; cases h2; cases h3; exact .inr ⟨_, _, rfl, fin_now hr (.int _) q⟩
  · cases hz
theorem b_min (hc : X.calm = true) : BiG X (.builtin "min") gMin := by
  refine ⟨_, (cr_min hc).or (call_min2 hc), fun α F H S xs ds z Q hr hv hz q => ?_⟩
  unfold gMin at hz
  split at hz
  · cases hv with
    | cons h1 h2 =>
      cases h2
      split at hz
      · rename_i ys e1
        obtain ⟨ns, e2, e3⟩ := Option.bind_eq_some_iff.mp hz
        obtain ⟨m, e4, rfl⟩ := Option.map_eq_some_iff.mp e3
        obtain ⟨l, us, rfl, a1, a2⟩ := hr.viewL h1 e1
        have := asInts_eq e2
        subst this
        have := DVs.ints a2
        subst this
        refine .inl ⟨l, ns, rfl, a1, ?_, fun m' g1 g2 => ?_⟩
        · cases ns with
          | nil => cases e4
          | cons _ _ => exact Nat.succ_pos _
        · rw [minI_of g1 g2] at e4
          cases e4
          exact fin_now hr (.int _) q
      · cases hz
  · cases hz
    cases hv with
    | cons h1 h2 => cases h2 with
      | cons h2 h3 => cases h1; cases h2; cases h3; exact .inr ⟨_, _, rfl, fin_now hr (.int _) q⟩
  · cases hz
end
end DL

set_option Elab.async false
set_option linter.all false
set_option maxRecDepth 100000
set_option maxHeartbeats 4000000
set_option autoImplicit false
/-! Data layer: dict() of pairs. -/
namespace DL
open PySem PySem.Spec PyProof.Rows L2

/-! ### by values -/
/-- tuples of two -/
def PairsV (K : Fg) (H : Hp) : List V → List (V × V) → Prop := Paired fun u pr => ∃ p, u = .ref p ∧ SqT K H p [pr.1, pr.2]
def mergeV (xs more : List (NestedKey × Addr × V)) : List (NestedKey × Addr × V) := more.foldl (fun acc x => putV acc x.1 x.2.1 x.2.2) xs
theorem NV.merge : ∀ {ys : List (NestedKey × Addr × V)} {ws : List (NestedKey × Addr × Value)}, NV ys ws → ∀ {xs : List (NestedKey × Addr × V)} {vs : List (NestedKey × Addr × Value)}, NV xs vs → NV (mergeV xs ys) (storedAllH vs ws) := by
  intro ys ws h
  unfold NV at h
  induction h with
  | nil => exact fun g => g
  | @cons a b l₁ l₂ r t ih =>
    intro xs vs g
    show NV (mergeV (putV xs a.1 a.2.1 a.2.2) l₁) (storedAllH (storedH vs b.1 b.2.1 b.2.2) l₂)
    have := g.put a.1 a.2.1 r.2.2
    rw [← r.1, ← r.2.1]
    exact ih this
theorem mergeV_length (ys : List (NestedKey × Addr × V)) : ∀ xs : List (NestedKey × Addr × V), (mergeV xs ys).length ≤ xs.length + ys.length := by
  induction ys with
  | nil => intro xs; exact Nat.le_refl _
  | cons y ys ih =>
    intro xs
    have := ih (putV xs y.1 y.2.1 y.2.2)
    have := putV_length xs y.1 y.2.1 y.2.2
    rw [List.length_cons]
    show (mergeV (putV xs y.1 y.2.1 y.2.2) ys).length ≤ _
    omega
section
variable {X : Cx} {pins : List (Addr × Obj)} {σ : L2.St} {H : Hp} {s : Shared}
theorem pairs_vals (I : Inv X pins σ H s) : ∀ {us : List V} {prs : List (V × V)} {vs : List Value}, PairsV X.K H us prs → Vals us vs →
    ∃ (Ts : List Addr) (ps : List (Value × Value)), vs = Ts.map Value.ref ∧ Ts.length = ps.length ∧ Paired (fun a b => RelV a.1 b.1 ∧ RelV a.2 b.2) prs ps ∧ ∀ (j : Nat) (k v : Value), ps[j]? = some (k, v) → ∃ t, Ts[j]? = some t ∧ IsTup s.heap t #[k, v]
  | _, _, _, .nil, r => by cases r; exact ⟨[], [], rfl, rfl, .nil, fun j k v e => by simp at e⟩
  | _, _, _, .cons (a := u) (b := pr) h t, r => by
    cases r with
    | @cons _ w _ vs r1 r2 =>
      obtain ⟨p, rfl, hp⟩ := h
      obtain rfl : w = Value.ref p := r1
      obtain ⟨Ts, ps, e1, e2, e3, e4⟩ := pairs_vals I t r2
      obtain ⟨its, rv, ht, _⟩ := I.tuple hp
      obtain ⟨k, v, ei, rk, rv'⟩ := vals2 rv
      subst ei
      refine ⟨p :: Ts, (k, v) :: ps, by rw [e1]; rfl, by rw [List.length_cons, List.length_cons, e2], .cons ⟨rk, rv'⟩ e3, fun j k' v' e => ?_⟩
      cases j with
      | zero => simp at e; obtain ⟨rfl, rfl⟩ := e; exact ⟨p, rfl, ht⟩
      | succ j => simp at e; obtain ⟨t', h1, h2⟩ := e4 j k' v' e; exact ⟨t', by simpa using h1, h2⟩
/-- what may be handed to dict() -/
def DArg (K : Fg) (H : Hp) (a : Addr) (us : List V) : Prop := SqL K H a us ∨ PlT K H a us
theorem darg_at (I : Inv X pins σ H s) {a : Addr} {us : List V} (h : DArg X.K H a us) : ∃ (T : String) (its : List Value), (T = "list" ∨ T = "tuple") ∧ Vals us its ∧ us.length ≤ sizeLine ∧ PlainSeq T s.heap a its.toArray := by
  rcases h with h | ⟨h, q⟩
  · obtain ⟨its, rv, ⟨o, n, ho, hc, hd, hdat⟩, hz⟩ := I.list h
    exact ⟨"list", its, .inl rfl, rv, hz, o, n, ho, hc, hd, hdat⟩
  · obtain ⟨its, rv, ⟨o, ho, hc, n, hdat⟩, hz⟩ := I.tuple h
    refine ⟨"tuple", its, .inr rfl, rv, hz, o, n, ho, hc, ?_, hdat⟩
    rcases q with ⟨o', e, hd⟩ | ⟨o', e, hd⟩
    · obtain ⟨e', _⟩ := I.hok a _ e
      rw [ho] at e'; cases e'; exact hd
    · rw [I.kIn _ _ e] at ho; cases ho; exact hd
theorem pairItems_of {Ts : List Addr} {ps : List (Value × Value)} (hl : Ts.length = ps.length) (h : ∀ (j : Nat) (k v : Value), ps[j]? = some (k, v) → ∃ t, Ts[j]? = some t ∧ IsTup s.heap t #[k, v]) : PairItems s.heap (Ts.map Value.ref).toArray (fun j => Ts.getD j 0) ps := by
  refine ⟨by simp [hl], fun j k v e => ?_⟩
  obtain ⟨t, h1, h2⟩ := h j k v e
  have e2 : Ts.getD j 0 = t := by rw [List.getD_eq_getElem?_getD, h1]; rfl
  dsimp only
  rw [e2]
  exact ⟨by simp [h1], .inl h2⟩
theorem dict_arg {T : String} {a : Addr} {Ts : List Addr} {ps : List (Value × Value)} (hT : T = "list" ∨ T = "tuple") :
    PairArg X.prog X.w T a (a :: (List.range ps.length).map fun j => Ts.getD j 0) [] ps.length (PairRel ps) (fun h => PlainSeq T h a (Ts.map Value.ref).toArray ∧ PairItems h (Ts.map Value.ref).toArray (fun j => Ts.getD j 0) ps) := by
  rcases hT with rfl | rfl
  · exact PairArg.list a _ _ ps
  · exact PairArg.tuple a _ _ ps
end
section
variable {X : Cx}
/-- dict(pairs), keys ints and texts -/
theorem cr_dictK (hc : X.calm = true) : CallR X (.type "dict") (fun xs H Q => ∃ (a : Addr) (us : List V) (kvs : List (Key × V)), xs = [.ref a] ∧ DArg X.K H a us ∧ PairsV X.K H us (kvs.map fun p => (kV p.1, p.2)) ∧ ∀ p, H p = none → Q (.ref p) (upd H p (.dK (mergeK [] kvs)))) := by
  intro pins s σ H xs vs Q I r q
  obtain ⟨a, us, kvs, rfl, ha, hp, q⟩ := q
  rw [Vals.ref1 r]
  obtain ⟨T, its, hT, rv, hz, pl⟩ := darg_at I ha
  obtain ⟨Ts, ps, rfl, hl, rel, hat⟩ := pairs_vals I hp rv
  obtain ⟨kvs', rel', hk'⟩ : ∃ kvs' : List (Key × Value), KV kvs kvs' ∧ ∀ (i : Nat) (key v : Value), ps[i]? = some (key, v) → ∃ k, kvs'[i]? = some (k, v) ∧ (mixKind X.prog X.w).is k key = true := by
    clear hat hl pl hp q rv
    generalize e : kvs.map (fun p => (kV p.1, p.2)) = prs at rel
    induction rel generalizing kvs with
    | nil =>
      cases kvs with
      | nil => exact ⟨[], .nil, fun i k v e => by simp at e⟩
      | cons _ _ => cases e
    | @cons pr p l₁ l₂ h t ih =>
      cases kvs with
      | nil => cases e
      | cons kv kvs =>
        cases e
        obtain ⟨kvs', h1, h2⟩ := ih kvs rfl
        refine ⟨(kv.1, p.2) :: kvs', .cons ⟨rfl, h.2⟩ h1, fun i key v e => ?_⟩
        cases i with
        | zero => simp at e; subst e; exact ⟨kv.1, rfl, kV_is h.1⟩
        | succ i => simp at e; obtain ⟨k, e1, e2⟩ := h2 i key v e; exact ⟨k, by simpa using e1, e2⟩
  have hlen : kvs'.length = ps.length := by
    have h1 := Paired.length rel'
    have h2 := Paired.length rel
    rw [List.length_map] at h2
    omega
  have hzp : ps.length ≤ sizeLine := by
    have := rv.length
    rw [List.length_map] at this
    omega
  refine PySem.call_dict_pairs (knd := mixKind X.prog X.w) (kvs := kvs') (dict_arg (X := X) (a := a) (Ts := Ts) (ps := ps) hT) (I.ok.hd hc) ⟨pl, pairItems_of hl hat⟩ ⟨hlen, hk'⟩ hzp fun h' tk hd' k => ?_
  have hm : (s.heap.objs.size == sysModules) = false := beq_eq_false_iff_ne.mpr (Nat.ne_of_gt I.big)
  have hl2 : (mergeK [] kvs).length ≤ sizeLine := by
    refine Nat.le_trans (length_mergeK kvs []) ?_
    have := Paired.length rel'
    rw [List.length_nil, Nat.zero_add]
    omega
  exact ⟨.ref s.heap.objs.size, upd H s.heap.objs.size (.dK (mergeK [] kvs)), I.laid (t' := tk) (fun b o e => k b o (by simp) e) (Nat.le_refl _) (show ObjOk X.prog X.w _ _ _ (.dK (mergeK [] kvs)) from ⟨hl2, hm, merged [] kvs', KV.merge rel' .nil, hd'⟩), rfl, q _ (I.hok.fresh (Nat.le_refl _))⟩
/-- dict(pairs), keys tuples -/
theorem cr_dictN (hc : X.calm = true) (hu : X.A.units + 12 < cLine) : CallR X (.type "dict") (fun vs H Q => ∃ (a : Addr) (us : List V) (xs : List (NestedKey × Addr × V)), vs = [.ref a] ∧ DArg X.K H a us ∧ NKeys X.K H xs ∧ PairsV X.K H us (xs.map fun x => (.ref x.2.1, x.2.2)) ∧ ∀ p, H p = none → Q (.ref p) (upd H p (dN X.w p (mergeV [] xs)))) := by
  intro pins s σ H vs0 vs Q I r q
  obtain ⟨a, us, xs, rfl, ha, hk, hp, q⟩ := q
  rw [Vals.ref1 r]
  obtain ⟨T, its, hT, rv, hz, pl⟩ := darg_at I ha
  obtain ⟨Ts, ps, rfl, hl, rel, hat⟩ := pairs_vals I hp rv
  obtain ⟨ys, rel', hk'⟩ : ∃ ys : List (NestedKey × Addr × Value), NV xs ys ∧ ∀ (i : Nat) (key v : Value), ps[i]? = some (key, v) → ∃ k b, ys[i]? = some (k, b, v) ∧ key = .ref b := by
    clear hat hl pl hp q rv hk
    generalize e : xs.map (fun x => (V.ref x.2.1, x.2.2)) = prs at rel
    induction rel generalizing xs with
    | nil =>
      cases xs with
      | nil => exact ⟨[], .nil, fun i k v e => by simp at e⟩
      | cons _ _ => cases e
    | @cons pr p l₁ l₂ h t ih =>
      cases xs with
      | nil => cases e
      | cons x xs =>
        cases e
        obtain ⟨ys, h1, h2⟩ := ih xs rfl
        refine ⟨(x.1, x.2.1, p.2) :: ys, .cons ⟨rfl, rfl, h.2⟩ h1, fun i key v e => ?_⟩
        cases i with
        | zero => simp at e; subst e; exact ⟨x.1, x.2.1, rfl, h.1⟩
        | succ i => simp at e; obtain ⟨k, b, e1, e2⟩ := h2 i key v e; exact ⟨k, b, by simpa using e1, e2⟩
  have hlen : ys.length = ps.length := by
    have h1 := rel'.length
    have h2 := Paired.length rel
    rw [List.length_map] at h2
    omega
  have hzp : ps.length ≤ sizeLine := by
    have := rv.length
    rw [List.length_map] at this
    omega
  have hst : KeysStay (nestedKind X.prog X.w) s.heap s.heap.objs.size [] ys := by
    intro h' kp x hx
    obtain ⟨i, hi⟩ := List.mem_iff_getElem?.mp hx
    obtain ⟨y, hy⟩ : ∃ y, xs[i]? = some y := ⟨_, List.getElem?_eq_getElem (by rw [rel'.length]; exact (List.getElem?_eq_some_iff.mp hi).1)⟩
    obtain ⟨z, hz, q1, q2, _⟩ := paired_get rel' hy
    rw [hi] at hz
    cases hz
    obtain ⟨k1, k2⟩ := hk y (List.mem_of_getElem? hy)
    rw [← q1, ← q2]
    exact ⟨NestedIs.at (fun b o vs n hb _ => kp b o (Nat.ne_of_lt (Heap.lt_size hb)) (by simp) hb) _ _ (NK.is I k1 rfl), k2⟩
  refine PySem.call_dict_pairsH (knd := nestedKind X.prog X.w) (ps := ys) (dict_arg (X := X) (a := a) (Ts := Ts) (ps := ps) hT) (I.ok.hd hc) (show X.A.units + 1 + 1 + 8 < cLine by omega) ⟨pl, pairItems_of hl hat⟩ ⟨hlen, hk'⟩ hst hzp fun h' tk hd' k => ?_
  have hm : (s.heap.objs.size == sysModules) = false := beq_eq_false_iff_ne.mpr (Nat.ne_of_gt I.big)
  have hl2 : (mergeV [] xs).length ≤ sizeLine := by
    have h1 := mergeV_length xs []
    have h2 := rel'.length
    rw [List.length_nil] at h1
    omega
  have rm := NV.merge rel' (xs := []) (vs := []) .nil
  obtain ⟨o, es, ep, g1, g2, g3, g4, _, g5⟩ := hd'
  have new : ObjOk X.prog X.w (upd H s.heap.objs.size (dN X.w s.heap.objs.size (mergeV [] xs))) h' s.heap.objs.size (dN X.w s.heap.objs.size (mergeV [] xs)) :=
    ⟨⟨hm, hl2, by rw [rm.keys]; exact g5, _, rm, o, es, ep, g1, g2, g3, g4⟩, ⟨o, g1⟩, fun z1 z2 ⟨p1, p2, p3, vs', p4, o', es', ep', p5, p6⟩ st => ⟨p1, p2, p3, vs', p4, o', es', ep', st _ p5, p6⟩⟩
  exact ⟨.ref s.heap.objs.size, _, I.laid (t' := tk) (fun b o e => k b o (by simp) e) (Nat.le_refl _) new, rfl, q _ (I.hok.fresh (Nat.le_refl _))⟩
end
/-! ### by data -/
def pairOf : D → Option (D × D)
  | .tup [k, v] => some (k, v)
  | _ => none
def pairsOf : List D → Option (List (D × D))
  | [] => some []
  | d :: r => match pairOf d, pairsOf r with
    | some p, some ps => some (p :: ps)
    | _, _ => none
def dictOf (kvs : List (D × D)) : Option D := if kvs.all (fun p => isKey p.1) then some (.dct (mergeD [] kvs)) else if kvs.all (fun p => isKeyN p.1) then some (.dcn (mergeN [] kvs)) else none
def gDict : Sto → List D → Option D := fun S ds => match ds with
  | [d] => (match deref S d with
    | .lst xs => (pairsOf xs).bind dictOf
    | .tup xs => (pairsOf xs).bind dictOf
    | .dct kvs => some (.dct kvs)
    | _ => none)
  | _ => none
section
variable {wd : World} {K : Fg} {mg : Str → Option Value} {α β : List Addr} {F F1 H H1 : Hp} {S : Sto}
/-- the pairs, by values -/
theorem pairs_see (s : Sub F H) : ∀ {us : List V} {ds : List D} {kvs : List (D × D)}, DVs wd K mg F α us ds → pairsOf ds = some kvs → ∃ prs : List (V × V), PairsV K H us prs ∧ DVs wd K mg F α (prs.map (·.1)) (kvs.map (·.1)) ∧ DVs wd K mg F α (prs.map (·.2)) (kvs.map (·.2))
  | _, [], kvs, h, e => by
    unfold pairsOf at e
    cases e
    cases h
    exact ⟨[], .nil, .nil, .nil⟩
  | _, d :: ds, kvs, h, e => by
    unfold pairsOf at e
    split at e
    · rename_i p ps e1 e2
      cases e
      cases h with
      | cons h1 h2 =>
        obtain ⟨prs, g1, g2, g3⟩ := pairs_see s h2 e2
        unfold pairOf at e1
        split at e1
        · cases e1
          cases h1 with
          | tup q t =>
            cases t with
            | cons t1 t2 => cases t2 with
              | cons t2 t3 =>
                cases t3
                exact ⟨(_, _) :: prs, .cons ⟨_, rfl, s.sqT q.1⟩ g1, .cons t1 g2, .cons t2 g3⟩
        · cases e1
    · cases e
theorem nkeysOf (s : Sub F H) : ∀ {kvs : List (D × D)} {prs : List (V × V)}, kvs.all (fun p => isKeyN p.1) = true → DVs wd K mg F α (prs.map (·.1)) (kvs.map (·.1)) → DVs wd K mg F α (prs.map (·.2)) (kvs.map (·.2)) →
    ∃ xs : List (NestedKey × Addr × V), prs = xs.map (fun x => (.ref x.2.1, x.2.2)) ∧ NVs wd K mg F α xs kvs
  | [], [], _, _, _ => ⟨[], rfl, .nil⟩
  | [], _ :: _, _, h, _ => by have := h.length; simp at this
  | _ :: _, [], _, h, _ => by have := h.length; simp at this
  | (q, d) :: kvs, (x, y) :: ps, hk, h, g => by
    rw [List.all_cons, Bool.and_eq_true] at hk
    have h' : DVs wd K mg F α (x :: ps.map (·.1)) (q :: kvs.map (·.1)) := h
    have g' : DVs wd K mg F α (y :: ps.map (·.2)) (d :: kvs.map (·.2)) := g
    cases h' with
    | cons h1 h2 =>
      cases g' with
      | cons g1 g2 =>
        obtain ⟨xs, e1, e2⟩ := nkeysOf s hk.2 h2 g2
        obtain ⟨ds, nk, eq, k1, k2⟩ := isKeyN_ex hk.1
        have eq : q = .tup ds := eq
        subst eq
        obtain ⟨b, rfl⟩ := DV.isRef h1
        exact ⟨(nk, b, y) :: xs, by rw [e1]; rfl, .cons k1 k2 h1 ⟨_, rfl⟩ g1 e2⟩
theorem NVs.merge {more : List (NestedKey × Addr × V)} {mk : List (D × D)} (g : NVs wd K mg F α more mk) : ∀ {xs : List (NestedKey × Addr × V)} {kvs : List (D × D)}, NVs wd K mg F α xs kvs → NVs wd K mg F α (mergeV xs more) (mergeN kvs mk) := by
  induction g with
  | nil => exact fun h => h
  | cons h1 h2 h3 h4 h5 _ ih => exact fun h => ih (h.put h1 h2 h3 h4 h5)
theorem all_keys_map {ws : List (Key × V)} : (ws.map fun kv => (kV kv.1, kv.2)) = ws.map (fun p => (kV p.1, p.2)) := rfl
end
section
variable {X : Cx} {W : WX} {a b c e tg : Expr} {es rest : List Expr} {ra rb rc : RE} {rs : RA} {pos p : Pos}
/-- a thing that a class makes -/
theorem pf_callTG {x : Str} {T : String} {g : Sto → List D → Option D} {r : List V → Hp → VK → Prop} (hc : CallR X (.type T) r) (hgk : ∀ α F H S xs ds z Q, Rel X.w X.K X.mg α F H S → DVs X.w X.K X.mg F α xs ds → g S ds = some z → z.open = true ∧ ((∀ p o, H p = none → Own X.w X.K X.mg F α (upd H p o) p z → Q (.ref p) (upd H p o)) → r xs H Q))
    (hm : X.mg x = none) (ha : PDs X W (e :: es) rs) (hg : Gl X x := by rfl) (hv : bootBuiltins x = some (.type T) := by decide +kernel) (hn : x ≠ "__name__" := by decide) (hdb : (x == ("__debug__" : Str)) = false := by decide)
    (he : starEach (e :: es) X.env = (false, eval e X.env) :: starEach es X.env := by rfl) (hpl : (backTo pos (starEach es X.env)).any (·.1) = false := by rfl) : PF X W (.Call (.Name x p) (e :: es) [] pos) (rAs g rs) := by
  obtain ⟨t, pt, st⟩ := ha.ex
  refine ⟨_, pe_callTy hc hg hm hv pt hn hdb he hpl, fun α F σ H δ S Q hr hs h => ?_⟩
  refine st α F σ H δ S _ hr hs (wpF.bind h fun ds S1 _ xs H1 β F1 r1 q1 v1 h1 => ?_)
  cases eg : g S1 ds with
  | none => rw [eg] at h1; exact h1.elim
  | some z =>
    rw [eg] at h1
    obtain ⟨e1, e2⟩ := hgk _ F1 H1 S1 xs ds z Q r1 v1 eg
    exact e2 fun p o hp ho => wpF.lay h1 r1 hp ho e1
theorem dictOf_see {α : List Addr} {F H : Hp} {S : Sto} {us : List V} {ds : List D} {z : D} {Q : VK} {a : Addr} (hr : Rel X.w X.K X.mg α F H S) (hv : DVs X.w X.K X.mg F α us ds) (e : (pairsOf ds).bind dictOf = some z) (ha : DArg X.K H a us) :
    z.open = true ∧ ((∀ p o, H p = none → Own X.w X.K X.mg F α (upd H p o) p z → Q (.ref p) (upd H p o)) →
      (∃ (a' : Addr) (us : List V) (kvs : List (Key × V)), [V.ref a] = [.ref a'] ∧ DArg X.K H a' us ∧ PairsV X.K H us (kvs.map fun p => (kV p.1, p.2)) ∧ ∀ p, H p = none → Q (.ref p) (upd H p (.dK (mergeK [] kvs)))) ∨
      ∃ (a' : Addr) (us : List V) (xs : List (NestedKey × Addr × V)), [V.ref a] = [.ref a'] ∧ DArg X.K H a' us ∧ NKeys X.K H xs ∧ PairsV X.K H us (xs.map fun x => (.ref x.2.1, x.2.2)) ∧ ∀ p, H p = none → Q (.ref p) (upd H p (dN X.w p (mergeV [] xs)))) := by
  obtain ⟨kvs, e1, e2⟩ := Option.bind_eq_some_iff.mp e
  obtain ⟨prs, g1, g2, g3⟩ := pairs_see hr.sub hv e1
  unfold dictOf at e2
  split at e2
  · rename_i hk
    cases e2
    obtain ⟨ws, k1, k2⟩ := keysOf hk g2 g3
    refine ⟨rfl, fun q => .inl ⟨a, us, ws, rfl, ha, by rw [k1] at g1; exact g1, fun p hp => q p _ hp (Own.dctK.mpr ⟨_, upd_same, KVs.merge k2 .nil⟩)⟩⟩
  · split at e2
    · rename_i hk
      cases e2
      obtain ⟨xs, k1, k2⟩ := nkeysOf hr.sub hk g2 g3
      exact ⟨rfl, fun q => .inr ⟨a, us, xs, rfl, ha, k2.keys hr.sub, by rw [k1] at g1; exact g1, fun p hp => q p _ hp ⟨_, upd_same, k2.merge .nil⟩⟩⟩
    · cases e2
theorem pf_dict (hc : X.calm = true) (hu : X.A.units + 12 < cLine) (hm : X.mg "dict" = none) (ha : PDs X W (e :: es) rs) (hg : Gl X "dict" := by rfl) (he : starEach (e :: es) X.env = (false, eval e X.env) :: starEach es X.env := by rfl) (hpl : (backTo pos (starEach es X.env)).any (·.1) = false := by rfl) :
    PF X W (.Call (.Name "dict" p) (e :: es) [] pos) (rAs gDict rs) := pf_callTG (((cr_dictK hc).or (cr_dictN hc hu)).or call_dictD) (fun α F H S xs ds z Q hr hv hz => by
  unfold gDict at hz
  split at hz
  · cases hv with
    | cons h1 h2 =>
      cases h2
      split at hz
      · rename_i ys e1
        obtain ⟨l, us, rfl, a1, a2⟩ := hr.viewL h1 e1
        obtain ⟨g1, g2⟩ := dictOf_see (Q := Q) hr a2 hz (.inl a1)
        exact ⟨g1, fun q => .inl (g2 q)⟩
      · rename_i ys e1
        have s := hr.see h1
        rw [e1] at s
        cases s with
        | «at» h _ =>
          cases h with
          | tup q t =>
            obtain ⟨g1, g2⟩ := dictOf_see (Q := Q) hr t hz (.inr (hr.sub.plT q))
            exact ⟨g1, fun q => .inl (g2 q)⟩
      · rename_i kvs e1
        cases hz
        obtain ⟨l, ws, rfl, a1, a2⟩ := hr.viewD h1 e1
        exact ⟨rfl, fun q => .inr ⟨l, ws, rfl, a1, fun p hp => q p _ hp (Own.dctK.mpr ⟨_, upd_same, a2⟩)⟩⟩
      · cases hz
  · cases hz) hm ha hg (by decide +kernel) (by decide) (by decide) he hpl
end
end DL

set_option Elab.async false
set_option linter.all false
set_option maxRecDepth 100000
set_option maxHeartbeats 4000000
set_option autoImplicit false
/-! Data layer: sorted(d.items()). -/
namespace DL
open PySem PySem.Spec PyProof.Rows L2

/-- tuples that are laid, one after the other, for good -/
inductive Grow : Hp → List Addr → List (V × V) → Hp → Prop
  | nil {H : Hp} : Grow H [] [] H
  | cons {H H2 : Hp} {T : Addr} {Ts : List Addr} {p : V × V} {ps : List (V × V)} {o : Obj} : H T = none → o.dict = none → Grow (upd H T (.frz o (.tup [p.1, p.2]))) Ts ps H2 → Grow H (T :: Ts) (p :: ps) H2
theorem Grow.keeps {H H2 : Hp} {Ts : List Addr} {ps : List (V × V)} (g : Grow H Ts ps H2) : ∀ {b : Addr} {o : HO}, H b = some o → H2 b = some o := by
  induction g with
  | nil => exact fun e => e
  | cons h _ _ ih => exact fun e => ih (upd_some h e)
section
open PySem.W
variable {X : Cx} {pins : List (Addr × Obj)} {σ : L2.St} {H H0 H1 : Hp} {s : Shared} {h' : Heap} {tk : Nat}
theorem takeG (I0 : Inv X pins σ H0 s) : ∀ (as : List Addr) (ps : List (V × V)) (H1 : Hp), Inv X pins σ H1 { s with heap := h', toks := tk } → as.Nodup →
    EachIs (fun a (p : V × V) => s.heap.objs.size ≤ a ∧ ∃ o : Obj, o.dict = none ∧ ∀ H2, ObjOk X.prog X.w H2 h' a (.frz o (.tup [p.1, p.2]))) as ps → (∀ a ∈ as, H1 a = none) →
    ∃ H2, Inv X pins σ H2 { s with heap := h', toks := tk } ∧ Grow H1 as ps H2 ∧ ∀ b, b ∉ as → H2 b = H1 b
  | _, _, H1, I1, _, .nil, _ => ⟨H1, I1, .nil, fun _ _ => rfl⟩
  | a :: as, p :: ps, H1, I1, hn, .cons h t, hf => by
    obtain ⟨hb, o, ho, ok⟩ := h
    have hnone := hf a List.mem_cons_self
    have I2 : Inv X pins σ (upd H1 a (.frz o (.tup [p.1, p.2]))) { s with heap := h', toks := tk } := I1.take (h' := h') (t' := tk) (fun b ob _ e => e) (I0.fpOk hb hnone) (ok _)
    rw [List.nodup_cons] at hn
    obtain ⟨H2, I3, g, q⟩ := takeG I0 as ps _ I2 hn.2 t fun c hc => by
      rw [upd_ne (fun z => hn.1 (by rw [← z]; exact hc))]
      exact hf c (List.mem_cons_of_mem _ hc)
    refine ⟨H2, I3, .cons hnone ho g, fun b hb => ?_⟩
    rw [List.mem_cons, not_or] at hb
    rw [q b hb.2, upd_ne hb.1]
end
/-- the pairs of the dict at a -/
def ItSrc (w : World) (H : Hp) (a : Addr) (prs : List (V × V)) : Prop :=
  (∃ ws : List (Key × V), Rd H a (.dK ws) ∧ prs = ws.map fun p => (kV p.1, p.2)) ∨ ∃ xs, Rd H a (dN w a xs) ∧ prs = xs.map fun x => (.ref x.2.1, x.2.2)
section
open PySem.W
variable {X : Cx} {pins : List (Addr × Obj)} {σ : L2.St} {H : Hp} {s : Shared} {a : Addr} {prs : List (V × V)}
theorem pairs_rel {P : Program} {w : World} : ∀ {es : List DictEntry} {vs : List (Key × Value)} {ws : List (Key × V)}, PySem.Pairs (mixKind P w) es vs → KV ws vs → EachIs (fun (e : DictEntry) (p : V × V) => RelV p.1 e.key ∧ RelV p.2 e.val) es (ws.map fun p => (kV p.1, p.2))
  | _, _, _, .nil, h => by cases h; exact .nil
  | _, _, _, .cons h1 h2 t, h => by
    cases h with
    | cons g gt => exact .cons ⟨by show RelV (kV _) _; rw [g.1]; exact relV_key h1, by rw [h2]; exact g.2⟩ (pairs_rel t gt)
theorem nv_rel {w : World} : ∀ {xs : List (NestedKey × Addr × V)} {vs : List (NestedKey × Addr × Value)}, NV xs vs → EachIs (fun (e : DictEntry) (p : V × V) => RelV p.1 e.key ∧ RelV p.2 e.val) (vs.map fun x => (⟨x.1.hash w, .ref x.2.1, x.2.2⟩ : DictEntry)) (xs.map fun x => (.ref x.2.1, x.2.2))
  | _, _, .nil => .nil
  | _, _, .cons h t => .cons ⟨by show Value.ref _ = Value.ref _; rw [h.2.1], h.2.2⟩ (nv_rel t)
theorem itsrc_at (I : Inv X pins σ H s) (h : ItSrc X.w H a prs) : (a == sysModules) = false ∧ prs.length ≤ sizeLine ∧ ∃ (es : Array DictEntry) (ep : Nat), DT.Raw s.heap a es ep ∧ EachIs (fun (e : DictEntry) (p : V × V) => RelV p.1 e.key ∧ RelV p.2 e.val) es.toList prs := by
  rcases h with ⟨ws, e, rfl⟩ | ⟨xs, e, rfl⟩
  · obtain ⟨z, hs, vs, kv, o, es, ep, ho, hx, hdt, r⟩ := (show ObjOk X.prog X.w H s.heap a (.dK ws) from e.ok I.hok)
    exact ⟨hs, by rw [List.length_map]; exact z, es, ep, ⟨o, ho, hx, hdt⟩, pairs_rel r.2.1 kv⟩
  · obtain ⟨⟨h1, h2, h3, vs, h4, o, es, ep, h5, h6, h7, h8⟩, _⟩ := (show ObjOk X.prog X.w H s.heap a (dN X.w a xs) from e.ok I.hok)
    exact ⟨h1, by rw [List.length_map]; exact h2, es, ep, ⟨o, h5, h6, h7⟩, by rw [h8]; exact nv_rel h4⟩
end
mutual
theorem reads_lt {h : Heap} : ∀ {v : Value} {d : PyData} {as : List Addr}, Reads h v d as → ∀ a ∈ as, a < h.objs.size
  | _, _, _, .none => fun _ z => nomatch z
  | _, _, _, .bool b => fun _ z => nomatch z
  | _, _, _, .int i t => fun _ z => nomatch z
  | _, _, _, .str x t => fun _ z => nomatch z
  | _, _, _, .list h1 h2 h3 h4 => fun a z => by
    rcases List.mem_cons.mp z with rfl | z
    · exact Heap.lt_size h1
    · exact readsAll_lt h4 a z
  | _, _, _, .tuple h1 h2 h3 h4 => fun a z => readsAll_lt h4 a z
  | _, _, _, .dict h1 h2 h3 h4 h5 => fun a z => by
    rcases List.mem_cons.mp z with rfl | z
    · exact Heap.lt_size h1
    · rcases List.mem_append.mp z with z | z
      · exact readsAll_lt h4 a z
      · exact readsAll_lt h5 a z
theorem readsAll_lt {h : Heap} : ∀ {vs : List Value} {ds : List PyData} {as : List Addr}, ReadsAll h vs ds as → ∀ a ∈ as, a < h.objs.size
  | _, _, _, .nil => fun _ z => nomatch z
  | _, _, _, .cons h1 h2 => fun a z => by
    rcases List.mem_append.mp z with z | z
    · exact reads_lt h1 a z
    · exact readsAll_lt h2 a z
end
/-- the pairs' data -/
inductive DpPs (K : Fg) (H : Hp) : List (V × V) → List PyData → Prop
  | nil : DpPs K H [] []
  | cons {p : V × V} {x y : PyData} {prs : List (V × V)} {ps : List PyData} : Dp K H p.1 x → Dp K H p.2 y → DpPs K H prs ps → DpPs K H (p :: prs) (.tuple [x, y] :: ps)
theorem DpPs.length {K : Fg} {H : Hp} {prs : List (V × V)} {ps : List PyData} (h : DpPs K H prs ps) : prs.length = ps.length := by
  induction h with
  | nil => rfl
  | cons _ _ _ ih => rw [List.length_cons, List.length_cons, ih]
def rSortIt (X : Cx) : List V → Hp → VK → Prop := fun vs H Q => ∃ (p a : Addr) (prs : List (V × V)) (ps : List PyData), vs = [.ref p] ∧ H p = some (L2.DX.itemsO p a) ∧ ItSrc X.w H a prs ∧ DpPs X.K H prs ps ∧ sortable ps = true ∧
  ∀ (Ts : List Addr) (H2 : Hp), Grow H Ts prs H2 → ∀ l, H2 l = none → H l = none → Q (.ref l) (upd H2 l (.lst (sortBy (Ts.map .ref) ps)))
def rItemsE (w : World) : V → List V → Hp → VK → Prop := fun x xs H Q => ∃ (a : Addr) (prs : List (V × V)), x = .ref a ∧ xs = [] ∧ ItSrc w H a prs ∧ ∀ p, H p = none → Q (.ref p) (upd H p (L2.DX.itemsO p a))
section
open PySem.W
variable {X : Cx} {W : WX} {o : Expr} {to : TE} {p : Pos} {apos cpos pos : Pos}
theorem each_get {A B : Type} {R : A → B → Prop} {as : List A} {bs : List B} (h : EachIs R as bs) : ∀ {i : Nat} {a : A}, as[i]? = some a → ∃ b, bs[i]? = some b ∧ R a b := by
  induction h with
  | nil => intro i a e; simp at e
  | cons r t ih =>
    intro i a' e
    cases i with
    | zero => simp at e; subst e; exact ⟨_, rfl, r⟩
    | succ j => simp at e; obtain ⟨b, h1, h2⟩ := ih e; exact ⟨b, by simpa using h1, h2⟩
theorem each_of {A B : Type} {R : A → B → Prop} : ∀ {as : List A} {bs : List B}, as.length = bs.length → (∀ (i : Nat) (a : A) (b : B), as[i]? = some a → bs[i]? = some b → R a b) → EachIs R as bs
  | [], [], _, _ => .nil
  | a :: as, b :: bs, hl, h => .cons (h 0 a b rfl rfl) (each_of (by simpa using hl) fun i x y e1 e2 => h (i + 1) x y (by simpa using e1) (by simpa using e2))
theorem each_len {A B : Type} {R : A → B → Prop} {as : List A} {bs : List B} (h : EachIs R as bs) : as.length = bs.length := by
  induction h with
  | nil => rfl
  | cons _ _ ih => rw [List.length_cons, List.length_cons, ih]
theorem dpps_get {K : Fg} {H : Hp} {prs : List (V × V)} {ps : List PyData} (h : DpPs K H prs ps) : ∀ {i : Nat} {q : V × V} {d : PyData}, prs[i]? = some q → ps[i]? = some d → ∃ x y, d = .tuple [x, y] ∧ Dp K H q.1 x ∧ Dp K H q.2 y := by
  induction h with
  | nil => intro i q d e; simp at e
  | cons h1 h2 _ ih =>
    intro i q d e1 e2
    cases i with
    | zero => simp at e1 e2; subst e1; subst e2; exact ⟨_, _, rfl, h1, h2⟩
    | succ j => simp at e1 e2; exact ih e1 e2
theorem reads2 {h : Heap} {a : Addr} {o : Obj} {u v : Value} {n : Nat} {x y : PyData} {as bs : List Addr} (ho : h.get? a = some o) (hc : o.cls = .type "tuple") (hd : o.data = .seq #[u, v] n) (h1 : Reads h u x as) (h2 : Reads h v y bs) : ∃ cs, Reads h (.ref a) (.tuple [x, y]) cs :=
  ⟨_, .tuple ho hc hd (.cons h1 (.cons h2 .nil))⟩
theorem sortable_ok {ps : List PyData} (h : sortable ps = true) : AllAlike ps ∧ Sortable ps ∧ ∀ d ∈ ps, d.depth ≤ 40 := by
  unfold sortable at h
  rw [Bool.and_eq_true, Bool.and_eq_true, Bool.or_eq_true] at h
  obtain ⟨k1, k2, k3⟩ := h
  refine ⟨fun d hd d' hd' => List.all_eq_true.mp (List.all_eq_true.mp k2 d hd) d' hd', ?_, fun d hd => of_decide_eq_true (List.all_eq_true.mp k3 d hd)⟩
  rcases k1 with k1 | k1
  · refine .inl fun d hd => ?_
    have := List.all_eq_true.mp k1 d hd
    match d, this with
    | .tuple (x :: r), _ => exact ⟨x, r, rfl⟩
  · refine .inr fun d hd => ?_
    have := List.all_eq_true.mp k1 d hd
    refine ⟨fun z => ?_, fun xs z => ?_⟩ <;> subst z <;> exact absurd this (by simp [noTup])
theorem cr_sortIt (hc : X.calm = true) (hu : X.A.units + 64 < cLine) : CallR X (.builtin "sorted") (rSortIt X) := by
  intro pins s σ H xs us Q I r h
  obtain ⟨p, a, prs, ps, rfl, hp, src, dp, so, q⟩ := h
  obtain rfl := Vals.ref1 r
  have view : s.heap.IsItemsView p a := (show ObjOk X.prog X.w H s.heap p (L2.DX.itemsO p a) from I.hok p _ hp).1
  obtain ⟨hd, hz, es, ep, raw, rel⟩ := itsrc_at I src
  have hes : es.size = prs.length := by rw [← Array.length_toList]; exact each_len rel
  refine DT.sortedI (es := es) (ep := ep) (I.ok.hd hc) view raw (by omega) fun h' tk as hk hlt hl hG => ?_
  have lak : as.length = prs.length := by omega
  have nd : as.Nodup := List.Pairwise.imp (fun h => Nat.ne_of_lt h) hG.rise
  have I1 : Inv X pins σ H { s with heap := h', toks := tk } := I.kept (t' := tk) hk
  have new : EachIs (fun a (p : V × V) => s.heap.objs.size ≤ a ∧ ∃ o : Obj, o.dict = none ∧ ∀ H2, ObjOk X.prog X.w H2 h' a (.frz o (.tup [p.1, p.2]))) as prs := each_of lak fun i b pr e1 e2 => by
    obtain ⟨e, h1, h2⟩ := hG.pairs i b e1
    refine ⟨Nat.le_of_lt (hG.above b (List.mem_of_getElem? e1)), _, rfl, fun H2 => ⟨h2, by show 2 ≤ sizeLine; decide, [e.key, e.val], ?_, _, h2, rfl, 0, rfl⟩⟩
    obtain ⟨pr', g1, g2, g3⟩ := each_get rel (i := i) (a := e) (by rw [Array.getElem?_toList]; exact h1)
    rw [e2] at g1
    cases g1
    exact .cons g2 (.cons g3 .nil)
  have fresh : ∀ b ∈ as, H b = none := fun b hb => I.hok.fresh (Nat.le_of_lt (hG.above b hb))
  obtain ⟨H2, I2, gr, oth⟩ := takeG I as prs H I1 nd new fresh
  have hob : (h'.push { cls := .type "list", data := .seq (as.map Value.ref).toArray }).get? h'.objs.size = some (seqObj "list" (as.map Value.ref).toArray 0) := Heap.get?_push_size _ rfl
  have ka : ∀ b o, h'.get? b = some o → (h'.push { cls := .type "list", data := .seq (as.map Value.ref).toArray }).get? b = some o := fun b o e => Heap.get?_push_of_some _ e
  generalize hh2 : h'.push { cls := .type "list", data := .seq (as.map Value.ref).toArray } = h2 at hob ka ⊢
  obtain ⟨hal, hso, hdp⟩ := sortable_ok so
  have lps : ps.length = as.length := by rw [lak, dp.length]
  have ml : ((as.map V.ref).zip ps).map (·.2) = ps := List.map_snd_zip (by rw [List.length_map, lps]; exact Nat.le_refl _)
  have e1 : EachIs (fun u (b : V × PyData) => RelV b.1 u) (as.map Value.ref) ((as.map V.ref).zip ps) := each_of (by rw [List.length_zip, List.length_map, List.length_map, lps, Nat.min_self]) fun i u b g1 g2 => by
    rw [List.getElem?_map] at g1
    obtain ⟨T, hT, rfl⟩ := Option.map_eq_some_iff.mp g1
    obtain ⟨g3, g4⟩ := List.getElem?_zip_eq_some.mp g2
    rw [List.getElem?_map, hT] at g3
    have g3' : V.ref T = b.1 := Option.some.inj g3
    show RelV b.1 (.ref T)
    rw [← g3']
    rfl
  have e2 : EachIs (fun u (b : V × PyData) => ∃ cs, Reads h2 u b.2 cs ∧ h'.objs.size ∉ cs) (as.map Value.ref) ((as.map V.ref).zip ps) := each_of (by rw [List.length_zip, List.length_map, List.length_map, lps, Nat.min_self]) fun i u b g1 g2 => by
    rw [List.getElem?_map] at g1
    obtain ⟨T, hT, rfl⟩ := Option.map_eq_some_iff.mp g1
    obtain ⟨g3, g4⟩ := List.getElem?_zip_eq_some.mp g2
    obtain ⟨e, h1, hTo⟩ := hG.pairs i T hT
    obtain ⟨pr', g5, g6, g7⟩ := each_get rel (i := i) (a := e) (by rw [Array.getElem?_toList]; exact h1)
    obtain ⟨x, y, g8, g9, g10⟩ := dpps_get dp g5 g4
    obtain ⟨as1, r1⟩ := Dp.reads I _ _ _ g9 g6
    obtain ⟨as2, r2⟩ := Dp.reads I _ _ _ g10 g7
    obtain ⟨cs, r3⟩ := reads2 hTo rfl rfl (PyProof.Rows.Reads.keeps hk r1) (PyProof.Rows.Reads.keeps hk r2)
    rw [g8]
    exact ⟨cs, PyProof.Rows.Reads.keeps ka r3, fun z => Nat.lt_irrefl _ (reads_lt r3 _ z)⟩
  have sl : ((as.map V.ref).zip ps).length = as.length := by rw [List.length_zip, List.length_map, lps, Nat.min_self]
  refine list_sort_data (s := { s with heap := h2, toks := tk }) (enc := fun b : V × PyData => b.2) hob e1 e2 (by rw [ml]; exact hal) (by rw [ml]; exact hso) (by rw [sl]; omega) (fun b hb => ?_) fun out o1 o2 => ?_
  · have := hdp b.2 (by rw [← ml]; exact List.mem_map.mpr ⟨b, hb, rfl⟩)
    show X.A.units + 1 + 1 + b.2.depth < cLine
    omega
  · show EP X pins σ Q (.ref h'.objs.size) { s with heap := sortedHeap h2 h'.objs.size (as.map Value.ref) (List.toArray out), toks := tk }
    have kF : ∀ b o, b ≠ h'.objs.size → h2.get? b = some o → (sortedHeap h2 h'.objs.size (as.map Value.ref) (List.toArray out)).get? b = some o := fun b o hb e => (PyProof.Rows.sortedHeap_old hb (Heap.lt_size e)).trans e
    have kS : ∀ b o, h'.get? b = some o → (sortedHeap h2 h'.objs.size (as.map Value.ref) (List.toArray out)).get? b = some o := fun b o e => kF b o (Nat.ne_of_lt (Heap.lt_size e)) (ka b o e)
    obtain ⟨eF, heF⟩ := PyProof.Rows.sortedHeap_at (vs := as.map Value.ref) (out := List.toArray out) hob
    have I3 : Inv X pins σ H2 { s with heap := sortedHeap h2 h'.objs.size (as.map Value.ref) (List.toArray out), toks := tk } := I2.kept (t' := tk) kS
    have hn0 : H h'.objs.size = none := I.hok.fresh (Nat.le_of_lt hlt)
    have hn : H2 h'.objs.size = none := by rw [oth _ (fun z => Nat.lt_irrefl _ (hG.there z))]; exact hn0
    have hv : Vals (sortBy (as.map V.ref) ps) out := each_vals (by
      have := each_map2 (R' := fun u v => RelV v u) (fun x => x) (fun b : V × PyData => b.1) (fun _ _ q => q) o2
      rw [List.map_id'] at this
      exact this)
    have hlen : (sortBy (as.map V.ref) ps).length ≤ sizeLine := by rw [sortBy_length (by rw [List.length_map, lps]), List.length_map]; omega
    exact ⟨.ref h'.objs.size, upd H2 h'.objs.size (.lst (sortBy (as.map V.ref) ps)), I3.take (h' := sortedHeap h2 h'.objs.size (as.map Value.ref) (List.toArray out)) (t' := tk) (fun b ob _ e => e) (I.fpOk (Nat.le_of_lt hlt) hn) ⟨hlen, out, eF, hv, heF⟩, rfl, q as H2 gr _ hn hn0⟩
theorem pe_itemsE (ho : PE X o to) (hbase : attributeBase o "items" X.env (eval o X.env) = eval o X.env := by rfl) (hline : (apos.endLine == cpos.line) = true := by rfl) :
    PE X (.Call (.Attribute o "items" apos) [] [] cpos) (fun σ H Q => to σ H fun x H1 => rItemsE X.w x [] H1 Q) := by
  refine ⟨fun pins s σ H Q I h => ?_⟩
  refine wpAny_Call_method (T := "dict") (id := "dict.items") hbase rfl hline PySem.F.plainAttrs_dict PySem.F.slot_dict_items PySem.F.type_dict_items (thn (ho.run pins s σ H _ I h) fun u s1 ⟨x, H1, I1, rx, a, prs, ex, _, src, q⟩ => ?_)
  subst ex
  obtain rfl : u = Value.ref a := rx
  obtain ⟨hd, _, es, ep, raw, _⟩ := itsrc_at I1 src
  refine ⟨raw.typeIs, fun b e => ?_, ?_⟩
  · cases e; obtain ⟨o, h1, h2, _⟩ := raw; exact ⟨o, h1, h2.2.1⟩
  · show wpAny _ _ (callWith cpos (.builtin "dict.items") [.ref a] [] []) _ X.xe s1
    refine Calls.callWith_builtin rfl (PySem.evalArgs_none (DT.callItems (es := es) (ep := ep) hd raw ?_))
    exact ⟨.ref s1.heap.objs.size, upd H1 s1.heap.objs.size (L2.DX.itemsO s1.heap.objs.size a), I1.laid (t' := s1.toks) (fun b u e => Heap.get?_push_of_some _ e) (Nat.le_refl _) (L2.DX.itemsO_ok (Heap.get?_push_size _ rfl)), rfl, q _ (I1.hok.fresh (Nat.le_refl _))⟩
end
/-! ### by data -/
/-- sorted(d.items()) -/
def itemsOf : D → Option (List D)
  | .dct kvs => some (kvs.map fun p => .tup [p.1, p.2])
  | .dcn kvs => some (kvs.map fun p => .tup [p.1, p.2])
  | _ => none
def rSortItems (a : RE) : RE := fun δ S => (a δ S).bind fun d S1 => .lift (((itemsOf (deref S1 d)).bind (sortD S1)).map .lst) S1
section
open PySem.W
variable {wd : World} {K : Fg} {mg : Str → Option Value} {α β : List Addr} {F F1 H H1 : Hp} {S : Sto}
theorem toPy_pair {x y : D} {r : PyData} (h : toPy S (.tup [x, y]) = some r) : ∃ p q, r = .tuple [p, q] ∧ toPy S x = some p ∧ toPy S y = some q := by
  unfold toPy toPys toPys toPys at h
  cases e1 : toPy S x with
  | none => rw [e1] at h; cases h
  | some p =>
    cases e2 : toPy S y with
    | none => rw [e1, e2] at h; cases h
    | some q => rw [e1, e2] at h; cases h; exact ⟨p, q, rfl, rfl, rfl⟩
theorem dp_pairs (s : Sub F H) : ∀ {prs : List (V × V)} {kvs : List (D × D)} {ps : List PyData}, EachIs (fun (p : V × V) (q : D × D) => DV wd K mg F α p.1 q.1 ∧ DV wd K mg F α p.2 q.2) prs kvs → toPys S (kvs.map fun p => .tup [p.1, p.2]) = some ps → DpPs K H prs ps
  | _, _, _, .nil, e => by cases e; exact .nil
  | _, _, _, .cons h t, e => by
    rw [List.map_cons] at e
    unfold toPys at e
    split at e
    · rename_i r rs e1 e2
      cases e
      obtain ⟨p, q, rfl, g1, g2⟩ := toPy_pair e1
      exact .cons (h.1.dp g1 s) (h.2.dp g2 s) (dp_pairs s t e2)
    · cases e
theorem Rel.items (hr : Rel wd K mg α F H S) {x : V} {d : D} {xs : List D} (hx : DV wd K mg F α x d) (e : itemsOf (deref S d) = some xs) :
    ∃ a prs kvs, x = .ref a ∧ ItSrc wd H a prs ∧ xs = kvs.map (fun p => .tup [p.1, p.2]) ∧ EachIs (fun (p : V × V) (q : D × D) => DV wd K mg F α p.1 q.1 ∧ DV wd K mg F α p.2 q.2) prs kvs := by
  have s := hr.see hx
  generalize hd : deref S d = dd at e s
  cases s with
  | «at» h _ => cases h <;> cases e
  | dead => cases e
  | lst _ _ => cases e
  | @dct a ws kvs rd k t =>
    cases e
    have kv := KVs.of k t
    refine ⟨a, _, kvs, rfl, .inl ⟨ws, rd, rfl⟩, rfl, each_of (by rw [List.length_map, kv.length]) fun i p q e1 e2 => ?_⟩
    obtain ⟨k, v, g1, g2, g3⟩ := kv.at e2
    rw [List.getElem?_map, g1] at e1
    cases e1
    exact ⟨by rw [g2]; exact DV.key k, g3⟩
  | @dcn a xs kvs rd t =>
    cases e
    refine ⟨a, _, kvs, rfl, .inr ⟨xs, rd, rfl⟩, rfl, each_of (by rw [List.length_map, t.length]) fun i p q e1 e2 => ?_⟩
    obtain ⟨k, b, v, g1, g2, g3⟩ := t.at e2
    rw [List.getElem?_map, g1] at e1
    cases e1
    exact ⟨g2, g3⟩
theorem Grow.rel : ∀ {Ts : List Addr} {prs : List (V × V)} {H H2 : Hp} {F : Hp}, Grow H Ts prs H2 → Rel wd K mg α F H S →
    ∃ F2, Rel wd K mg (α ++ []) F2 H2 S ∧ Stp α F H [] F2 H2 ∧ EachIs (fun T (p : V × V) => PlT K F2 T [p.1, p.2]) Ts prs
  | _, _, _, _, F, .nil, hr => ⟨F, by rw [List.append_nil]; exact hr, Stp.refl, .nil⟩
  | T :: Ts, p :: ps, H, H2, F, .cons (o := o) hn hd g, hr => by
    obtain ⟨r1, s1⟩ := hr.newF (o := .frz o (.tup [p.1, p.2])) hn
    rw [List.append_nil] at r1
    obtain ⟨F2, r2, s2, e2⟩ := Grow.rel g r1
    have s1' : Stp (α ++ []) (upd F T (.frz o (.tup [p.1, p.2]))) (upd H T (.frz o (.tup [p.1, p.2]))) [] F2 H2 := by rw [List.append_nil]; exact s2
    exact ⟨F2, r2, s1.trans s1', .cons (s2.sub.plT (PlT.new hd)) e2⟩
theorem pairs_dvs {F : Hp} : ∀ {Ts : List Addr} {prs : List (V × V)} {kvs : List (D × D)}, EachIs (fun T (p : V × V) => PlT K F T [p.1, p.2]) Ts prs → EachIs (fun (p : V × V) (q : D × D) => DV wd K mg F α p.1 q.1 ∧ DV wd K mg F α p.2 q.2) prs kvs → DVs wd K mg F α (Ts.map .ref) (kvs.map fun p => .tup [p.1, p.2])
  | _, _, _, .nil, .nil => .nil
  | _, _, _, .cons h t, .cons g u => .cons (.tup h (.cons g.1 (.cons g.2 .nil))) (pairs_dvs t u)
end
section
variable {X : Cx} {W : WX} {o : Expr} {ro : RE} {p apos cpos pos : Pos}
theorem pf_sortIt (hc : X.calm = true) (hu : X.A.units + 64 < cLine) (hm : X.mg "sorted" = none) (ho : PD X W o ro) (hg : Gl X "sorted" := by rfl)
    (hbase : attributeBase o "items" X.env (eval o X.env) = eval o X.env := by rfl) (hline : (apos.endLine == cpos.line) = true := by rfl)
    (he : starEach [.Call (.Attribute o "items" apos) [] [] cpos] X.env = (false, eval (.Call (.Attribute o "items" apos) [] [] cpos) X.env) :: starEach [] X.env := by rfl) (hpl : (backTo pos (starEach [] X.env)).any (·.1) = false := by rfl) :
    PF X W (.Call (.Name "sorted" p) [.Call (.Attribute o "items" apos) [] [] cpos] [] pos) (rSortItems ro) := by
  obtain ⟨to, po, so⟩ := ho.ex
  have inner := pe_itemsE (cpos := cpos) po hbase hline
  refine ⟨_, pe_callB (cr_sortIt hc hu) hg hm (by decide +kernel) (pa_cons inner pa_nil he) (by decide) (by decide) he hpl, fun α F σ H δ S Q hr hs h => ?_⟩
  refine so α F σ H δ S _ hr hs (wpF.bind h fun d S1 _ x H1 β F1 r1 q1 v1 h1 => ?_)
  cases e0 : itemsOf (deref S1 d) with
  | none => rw [e0] at h1; exact h1.elim
  | some ys =>
    rw [e0] at h1
    cases e3 : sortD S1 ys with
    | none => rw [Option.bind_some, e3] at h1; exact h1.elim
    | some zs =>
      rw [Option.bind_some, e3] at h1
      obtain ⟨a, prs, kvs, rfl, src, rfl, ev⟩ := r1.items v1 e0
      unfold sortD at e3
      split at e3
      · rename_i ps e4
        split at e3
        · rename_i hc4
          cases e3
          rw [Bool.and_eq_true] at hc4
          have dp := dp_pairs r1.sub ev e4
          refine ⟨a, prs, rfl, rfl, src, fun p hp => ?_⟩
          have n := r1.notin hp
          have f := r1.notF hp
          have r2 : Rel X.w X.K X.mg (α ++ β) F1 (upd H1 p (L2.DX.itemsO p a)) S1 := r1.other n f
          have sb2 : ∀ b u, H1 b = some u → upd H1 p (L2.DX.itemsO p a) b = some u := fun b u e => upd_some hp e
          refine ⟨p, a, prs, ps, rfl, upd_same, ?_, dp_pairs r2.sub ev e4, hc4.1, fun Ts H2 g l hl hl0 => ?_⟩
          · rcases src with ⟨ws, rd, e⟩ | ⟨xs, rd, e⟩
            · exact .inl ⟨ws, rd.imp (sb2 _ _) fun ⟨o, z⟩ => ⟨o, sb2 _ _ z⟩, e⟩
            · exact .inr ⟨xs, rd.imp (sb2 _ _) fun ⟨o, z⟩ => ⟨o, sb2 _ _ z⟩, e⟩
          · obtain ⟨F2, r3, s3, e5⟩ := g.rel r2
            have s2 : Stp (α ++ β) F1 H1 [] F1 (upd H1 p (L2.DX.itemsO p a)) := Stp.refl.other hp
            have s3' : Stp ((α ++ β) ++ []) F1 (upd H1 p (L2.DX.itemsO p a)) [] F2 H2 := by rw [List.append_nil]; exact s3
            have h3 := wpF.step (s2.trans s3') h1
            have dv := pairs_dvs (wd := X.w) (K := X.K) (mg := X.mg) (α := (α ++ β) ++ []) e5 (PySem.W.EachIs.mono (fun _ _ z => ⟨z.1.mono s3.sub, z.2.mono s3.sub⟩) ev)
            exact wpF.lay h3 r3 hl ⟨_, upd_same, dv.sort ps⟩ rfl
        · cases e3
      · cases e3
end
end DL

set_option Elab.async false
set_option linter.all false
set_option maxRecDepth 100000
set_option maxHeartbeats 4000000
set_option autoImplicit false
/-! Data layer: sorted(set(texts)). -/
namespace DL
open PySem PySem.Spec PyProof.Rows L2

def txV : Value → Str
  | .str x _ => x
  | _ => ⟨#[]⟩
def isTxV : Value → Bool
  | .str _ _ => true
  | _ => false
open PySem.Froz in
/-- the set of texts at a -/
def TxR (P : Program) (w : World) (h : Heap) (a : Addr) (l : List Str) : Prop :=
  ∃ D : SD, h.get? a = some (sObj "set" D) ∧ TxOk P w D l ∧ Ris D.2.2.place.toList ∧ (w.params.followText "set-order" = true ∨ D.2.2.led = true) ∧ (D.1.toList.map fun e => txV e.2).Perm l ∧ (∀ e ∈ D.1.toList, isTxV e.2 = true) ∧ l.Nodup
section
open PySem.Froz
variable {P : Program} {w : World} {A : Around} {E : Value → Shared → Prop} {s : Shared}
theorem tail_more {ep : Nat} {es1 : Array (Int × Value)} {t2 : SetTable} {wd : Bool} (r : Ris t2.place.toList) : Ris (tailTx ep es1 t2 wd).2.2.place.toList ∧ (tailTx ep es1 t2 wd).2.2.led = t2.led ∧ (tailTx ep es1 t2 wd).1.toList.Perm es1.toList := by
  unfold tailTx
  split
  · exact ⟨relayAll_ris _ _ _, relayAll_led _ _ _, relayAll_perm t2 es1 _⟩
  · exact ⟨r, rfl, .refl _⟩
theorem add_more {h : Int} {v : Value} {D : SD} (r : Ris D.2.2.place.toList) : Ris (addTx h v D).2.2.place.toList ∧ (addTx h v D).2.2.led = D.2.2.led ∧ (addTx h v D).1.toList.Perm (D.1.toList ++ [(h, v)]) := by
  unfold addTx
  have r1 := layNew_ris D.2.2 D.1 h v r
  have l1 := layNew_led D.2.2 D.1 h v
  have p1 := layNew_perm D.2.2 D.1 h v
  rw [Array.toList_push] at p1
  by_cases c : (layNew D.2.2 D.1 h v).2.1.plain = true
  · rw [if_pos c]
    obtain ⟨a1, a2, a3⟩ := tail_more (ep := D.2.1) (es1 := (layNew D.2.2 D.1 h v).1) (t2 := { (layNew D.2.2 D.1 h v).2.1 with plain := false }) (wd := (layNew D.2.2 D.1 h v).2.2.1) r1
    exact ⟨a1, a2.trans l1, a3.trans p1⟩
  · rw [if_neg c]
    obtain ⟨a1, a2, a3⟩ := tail_more (ep := D.2.1) (es1 := (layNew D.2.2 D.1 h v).1) (t2 := (layNew D.2.2 D.1 h v).2.1) (wd := (layNew D.2.2 D.1 h v).2.2.1) r1
    exact ⟨a1, a2.trans l1, a3.trans p1⟩
theorem add_old {a : Addr} {T : String} {D : SD} {l : List Str} {k : Str} {u : Tok} {Q : Bool → Shared → Prop} (ho : s.heap.get? a = some (sObj T D)) (F : TxOk P w D l) (hk : k ∈ l) (hb : l.length < scanBound)
    (h : Q false s) : wpAny (model P w) A (setAddHashed a (.str k u) (hashStr w k)) Q E s := by
  obtain ⟨es, ep, t⟩ := D
  have hd : (sObj T (es, ep, t)).data = .set es ep t := rfl
  have hf : t.fits es.size = true := F.fit
  have hel : ElemsOf (strKind P w) es.toList := F.el
  have hsz : es.size = l.length := F.sz
  have hb0 : es.size < scanBound := by omega
  have hkey : (strKind P w).is k (.str k u) = true := is_str k u
  obtain ⟨j, hj⟩ : ∃ j, List.findIdx? (fun e => (strKind P w).is k e.2) es.toList = some j := by
    cases hr : List.findIdx? (fun e => (strKind P w).is k e.2) es.toList with
    | some j => exact ⟨j, rfl⟩
    | none =>
      obtain ⟨e, he, q⟩ := (F.mem k).mp hk
      have := List.findIdx?_eq_none_iff.mp hr e he
      rw [q] at this
      cases this
  unfold setAddHashed setAddHashedIn
  refine wpAny_holding (wpAny_bind (wpAny_setState_of ho hd hf ?_))
  dsimp only
  rw [byScan_of rfl hb0 hel]
  simp only [↓reduceIte]
  unfold setAddByScan
  refine wpAny_bind ?_
  refine wpAny_bind (wpAny_rule ?_)
  refine wpAny_bind (wpAny_setScan_of (knd := strKind P w) (k := k) hkey ho hd hf hel ?_)
  rw [hj]
  dsimp only
  exact wpAny_pure (wpAny_pure h)
def addL (l : List Str) (k : Str) : List Str := if k ∈ l then l else k :: l
/-- the set of texts behind setAdd -/
theorem add_txt {a : Addr} {l : List Str} {k : Str} {u : Tok} {Q : Bool → Shared → Prop} (R : TxR P w s.heap a l) (hb : l.length + 1 < scanBound) (h : ∀ b h', TxR P w h' a (addL l k) → Heap.SameBut a s.heap h' → Q b { s with heap := h' }) :
    wpAny (model P w) A (setAddHashed a (.str k u) (hashStr w k)) Q E s := by
  obtain ⟨D, ho, F, r, ld, pm, tx, nd⟩ := R
  by_cases c : k ∈ l
  · refine add_old ho F c (by omega) (h false s.heap ?_ (Heap.SameBut.refl _ _))
    unfold addL
    rw [if_pos c]
    exact ⟨D, ho, F, r, ld, pm, tx, nd⟩
  · refine add_x ho F c hb (h true _ ?_ (Heap.SameBut.update ..))
    unfold addL
    rw [if_neg c]
    obtain ⟨m1, m2, m3⟩ := add_more (h := hashStr w k) (v := .str k u) r
    refine ⟨_, get_upd _ ho rfl, add_ok u F, m1, by rw [m2]; exact ld, ?_, fun e he => ?_, List.nodup_cons.mpr ⟨c, nd⟩⟩
    · refine (m3.map _).trans ?_
      rw [List.map_append]
      exact (List.perm_append_comm (l₁ := [k])).symm.trans (List.Perm.cons k pm)
    · rcases List.mem_append.mp (m3.mem_iff.mp he) with z | z
      · exact tx e z
      · rw [List.mem_singleton.mp z]; rfl
theorem TxR.keep {h h' : Heap} {a : Addr} {l : List Str} (R : TxR P w h a l) (k : ∀ o, h.get? a = some o → h'.get? a = some o) : TxR P w h' a l := by
  obtain ⟨D, ho, q⟩ := R
  exact ⟨D, k _ ho, q⟩
end
open PySem PyProof.Rows in
section
open PySem.Froz
variable {P : Program} {w : World} {A : Around} {E : Value → Shared → Prop} {s : Shared}
def gotL (xs : List Str) (i : Nat) : List Str := (xs.take i).foldl addL []
theorem addL_length (l : List Str) (k : Str) : (addL l k).length ≤ l.length + 1 := by
  unfold addL
  split
  · omega
  · exact Nat.le_refl _
theorem foldl_addL_length : ∀ (xs l : List Str), (xs.foldl addL l).length ≤ l.length + xs.length
  | [], l => Nat.le_refl _
  | k :: xs, l => by
    rw [List.foldl_cons]
    have h1 := foldl_addL_length xs (addL l k)
    have h2 := addL_length l k
    rw [List.length_cons]
    omega
theorem gotL_succ {xs : List Str} {i : Nat} {k : Str} (h : xs[i]? = some k) : gotL xs (i + 1) = addL (gotL xs i) k := by
  unfold gotL
  rw [List.take_succ, h, List.foldl_append] <;> rfl
theorem gotL_length (xs : List Str) (i : Nat) : (gotL xs i).length ≤ xs.length := by
  have := foldl_addL_length (xs.take i) []
  unfold gotL
  rw [List.length_nil, Nat.zero_add, List.length_take] at this
  omega
theorem set_update_txt {I : Addr} {fp wr : List Addr} {G : Array GenState → Array GenState → Prop} {n : Nat} {Pv : Nat → Value → Prop} {St : Nat → Shared → Prop} {R : Result → Shared → Prop}
    (W : WalksS P w A.in1 I fp wr G n Pv St) (S : Addr) (hSf : S ∉ fp) (xs : List Str) (hn : n = xs.length) (hfew : xs.length + 1 < scanBound) (hval : ∀ i v, Pv i v → ∃ x t, xs[i]? = some x ∧ v = .str x t)
    (h0 : Heap) (hS0 : h0.get? S = none) (hw0 : ∀ b ∈ wr, h0.get? b = none) :
    ∀ (k i : Nat) (s : Shared), n - i = k → i ≤ n → St i s → (∀ b o, h0.get? b = some o → s.heap.get? b = some o) → TxR P w s.heap S (gotL xs i) →
      (∀ s', Moved (S :: wr) G s s' → TxR P w s'.heap S (gotL xs n) → (∀ b o, h0.get? b = some o → s'.heap.get? b = some o) → R (.ok (.ret .none)) s') →
      codeAny (model P w) A (.builtin "set.update.loop" ⟨[.ref S, .ref I], []⟩) R s := by
  have hSw : S ∉ wr := fun h => hSf (W.sub _ h)
  have hsub : ∀ b ∈ wr, b ∈ S :: wr := fun b hb => List.mem_cons_of_mem _ hb
  have keepM : ∀ {s s' : Shared}, Moved wr G s s' → (∀ b o, h0.get? b = some o → s.heap.get? b = some o) → ∀ b o, h0.get? b = some o → s'.heap.get? b = some o := fun hm hkp b o e =>
    hm.heap b o (fun hb => by rw [hw0 b hb] at e; cases e) (hkp b o e)
  intro k
  induction k with
  | zero =>
    intro i s hk' hi hst hkp hS hR
    have hin : i = n := by omega
    subst hin
    refine codeAny_builtin F.entry_set_update_loop ?_
    rw [Around.under_plainId F.plain_set_update_loop _]
    show wpAny _ A.in1 (pyNext (.ref I) >>= _) _ _ s
    refine wpAny_bind (W.done s _ _ hst fun s' hm => ?_)
    show wpAny _ A.in1 (ret Value.none) _ _ s'
    exact wpAny_pure (hR s' (hm.mono hsub) (hS.keep fun o e => hm.heap S o hSw e) (keepM hm hkp))
  | succ k ih =>
    intro i s hk' hi hst hkp hS hR
    have hlt : i < n := by omega
    refine codeAny_builtin F.entry_set_update_loop ?_
    rw [Around.under_plainId F.plain_set_update_loop _]
    show wpAny _ A.in1 (pyNext (.ref I) >>= _) _ _ s
    refine wpAny_bind (W.item i s _ _ hlt hst fun v s' hP hst' hm => ?_)
    obtain ⟨x, t, hx, rfl⟩ := hval i v hP
    have hkp' := keepM hm hkp
    have hS' : TxR P w s'.heap S (gotL xs i) := hS.keep fun o e => hm.heap S o hSw e
    show wpAny _ A.in1 (holding [Value.str x t] (setAdd S (.str x t)) >>= _) _ _ s'
    refine wpAny_bind (wpAny_holding ?_)
    unfold setAdd
    refine wpAny_holding ?_
    refine wpAny_bind ((strKind P w).pyHash (is_str x t) ?_)
    have hl := gotL_length xs i
    refine add_txt (s := { s' with toks := s'.toks + 1 }) hS' (by omega) fun b h' hS2 hsb => ?_
    rw [← gotL_succ hx] at hS2
    have hkp2 : ∀ b o, h0.get? b = some o → h'.get? b = some o := fun b o e => (hsb.2 b (fun z => by rw [z, hS0] at e; cases e)).trans (hkp' b o e)
    refine wpAny_pure ⟨plainId_quiet F.plain_set_update_loop _, ih (i + 1) _ (by omega) hlt (W.frame _ s' _ _ hst' (Nat.le_add_right _ _) fun b hb o e => ?_) hkp2 hS2 fun s'' hm'' hS'' hkp'' => ?_⟩
    · rw [hsb.2 b (fun h : b = S => hSf (by rw [← h]; exact hb))]; exact e
    · refine hR s'' (Moved.trans W.gtrans ((hm.mono hsub).then_heap (Nat.le_add_right _ _) fun b o hb e => ?_) hm'') hS'' hkp''
      rw [hsb.2 b (fun h : b = S => hb (by rw [h]; exact List.mem_cons_self))]; exact e
theorem txR_fresh {h : Heap} {a : Addr} (ho : h.get? a = some { cls := .type "set", dict := none, data := .set #[] 0 (.fresh 0 0 (!w.params.followText "set-order")) }) : TxR P w h a [] :=
  ⟨(#[], 0, .fresh 0 0 (!w.params.followText "set-order")), ho, TxOk.nil rfl, List.Pairwise.nil, (by
    show _ ∨ (!w.params.followText "set-order") = true
    cases w.params.followText "set-order"
    · exact .inr rfl
    · exact .inl rfl), .refl _, (fun e he => by cases he), List.nodup_nil⟩
set_option maxHeartbeats 3200000 in
/-- set(xs) of texts -/
theorem call_set_txt {l : Addr} {items : Array Value} (xs : List Str) {Q : Value → Shared → Prop} (hh : A.handled = none) (hl : s.heap.IsList l items) (hit : StrsAre items.toList xs)
    (hfew : xs.length + 1 < scanBound)
    (h : ∀ (h' : Heap) (tk : Nat), TxR P w h' s.heap.objs.size (gotL xs xs.length) → (∀ b o, s.heap.get? b = some o → h'.get? b = some o) → Q (.ref s.heap.objs.size) { s with heap := h', toks := tk }) :
    wpAny (model P w) A (call (.type "set") [.ref l]) Q E s := by
  have hisz : items.size = xs.length := by
    rw [← StrsAre.len_eq hit, Array.length_toList]
  obtain ⟨c, tl, hmro⟩ := F.called_set.mro
  have hmade := F.called_set.made
  have hsub := F.called_set.sub
  refine wpAny_call (codeAny_of_tree ?_)
  show wpAny _ _ (callAny (.type "set") _) _ _ _
  refine wpAny_pure ⟨Code.quiet_builtin _ (by decide +kernel), codeAny_builtin F.entry_type_call ?_⟩
  rw [Around.under_plain (weight_type_call_type "set" [.ref l] []) rfl]
  have h1 := F.called_set.notType
  have h2 := F.called_set.canCreate
  have hct := F.typeCall_set_1 (.ref l)
  repeat (any_goals (first | assumption | wp_step))

  refine codeAny_mono (code_set_led1 (.ref l) (E := E) (Q₁ := fun obj s₁ => obj = .ref s.heap.objs.size ∧ s₁ = { s with heap := s.heap.push { cls := .type "set", dict := none, data := .set #[] 0 (.fresh 0 0 (!w.params.followText "set-order")) } }) ⟨rfl, rfl⟩) fun r s₁ hr => ?_
  cases r with
  | error e => exact hr
  | ok fl =>
    cases fl with
    | ret obj =>
      obtain ⟨rfl, rfl⟩ := hr
      have hS : (s.heap.push { cls := .type "set", dict := none, data := .set #[] 0 (.fresh 0 0 (!w.params.followText "set-order")) }).get? s.heap.objs.size = some { cls := .type "set", dict := none, data := .set #[] 0 (.fresh 0 0 (!w.params.followText "set-order")) } := Heap.get?_push_size _ rfl
      have hT : Shared.TypeIs { s with heap := s.heap.push { cls := .type "set", dict := none, data := .set #[] 0 (.fresh 0 0 (!w.params.followText "set-order")) } } (.ref s.heap.objs.size) "set" := ⟨_, hS, rfl⟩
      have hli := F.called_set.init.lookup
      have hbi := F.called_set.init.bind (.ref s.heap.objs.size)
      repeat (any_goals (first | assumption | wp_step))

      refine codeAny_mono (codeAny_call_builtin (R := wants (fun r s₂ => r = .none ∧ ∃ h' tk, s₂ = { s with heap := h', toks := tk } ∧ TxR P w h' s.heap.objs.size (gotL xs xs.length) ∧
          (∀ b o, s.heap.get? b = some o → h'.get? b = some o)) E) F.called_set.init.plain F.entry_set_init (check_set_init_1 hT ?_)) fun r₂ s₂ hr₂ => ?_
      · obtain ⟨ol, hol, hcl, nl, hdl⟩ := hl
        obtain ⟨ocls, odict, odata, oslots⟩ := ol
        simp only at hcl hdl
        subst hcl; subst hdl
        have hol' : (s.heap.push { cls := .type "set", dict := none, data := .set #[] 0 (.fresh 0 0 (!w.params.followText "set-order")) }).get? l = some { cls := .type "list", dict := odict, data := .seq items nl, slots := oslots } := Heap.get?_push_of_some _ hol
        have hsls := F.sub_list_set
        have hslf := F.sub_list_frozenset
        have hne : (Value.type "list" == Value.type "dict") = false := by decide
        have hl1 : (s.heap.push { cls := .type "set", dict := none, data := .set #[] 0 (.fresh 0 0 (!w.params.followText "set-order")) }).IsList l items := ⟨_, hol', rfl, nl, rfl⟩
        unfold Builtin.«set.__init__» noKeywords Builtin.Frozenset.updateFrom
        generalize hPI : pyIter = PI
        wp_walk
        subst hPI

        refine wpAny_pyIter_list hl1 ?_
        refine wpAny_bind (wpAny_runValue ?_)
        have hlS : l < s.heap.objs.size := Heap.lt_size hol
        have hh3 : A.in1.in1.in1.handled = none := by simp [hh]
        have hz1 : (s.heap.push { cls := .type "set", dict := none, data := .set #[] 0 (.fresh 0 0 (!w.params.followText "set-order")) }).objs.size = s.heap.objs.size + 1 := Heap.size_push ..
        have hneI : l ≠ (s.heap.push { cls := .type "set", dict := none, data := .set #[] 0 (.fresh 0 0 (!w.params.followText "set-order")) }).objs.size := by
          rw [Heap.size_push]; exact Nat.ne_of_lt (Nat.lt_succ_of_lt hlS)
        have hSf : s.heap.objs.size ∉ [(s.heap.push { cls := .type "set", dict := none, data := .set #[] 0 (.fresh 0 0 (!w.params.followText "set-order")) }).objs.size, l] := by
          rw [Heap.size_push]; simp only [List.mem_cons, List.mem_singleton, List.not_mem_nil, or_false, not_or]
          exact ⟨Nat.ne_of_lt (Nat.lt_succ_self _), Nat.ne_of_gt hlS⟩
        have hval : ∀ (i : Nat) (v : Value), items[i]? = some v → ∃ x t, xs[i]? = some x ∧ v = .str x t := fun i v hv => by
          obtain ⟨y, t, e1, e2⟩ := StrsAre.item hit i v (by rw [Array.getElem?_toList]; exact hv)
          exact ⟨y, t, e2, e1⟩
        have none_of : ∀ b, s.heap.objs.size ≤ b → s.heap.get? b = none := fun b hb => by
          cases q : s.heap.get? b with
          | none => rfl
          | some o => exact absurd (Nat.lt_of_lt_of_le (Heap.lt_size q) hb) (Nat.lt_irrefl _)
        refine set_update_txt ((Walks.list hh3 _ l hneI items).toS) s.heap.objs.size
          hSf xs hisz hfew hval s.heap (none_of _ (Nat.le_refl _)) (fun b hb => none_of b (by
            rw [List.mem_singleton.mp hb, Heap.size_push]
            exact Nat.le_succ _)) (items.size - 0) 0 _ (by omega) (Nat.zero_le _)
          ⟨⟨_, Heap.get?_push_size _ rfl, rfl, rfl⟩, (hl1.push _)⟩ (fun b o e => Heap.get?_push_of_some _ (Heap.get?_push_of_some _ e)) ?hS0 ?hR
        case hS0 =>
          have hget : ((s.heap.push { cls := .type "set", dict := none, data := .set #[] 0 (.fresh 0 0 (!w.params.followText "set-order")) }).push { cls := .type "list_iterator", data := .fields #[.ref l, .int 0 0] }).get? s.heap.objs.size
              = some { cls := .type "set", dict := none, data := .set #[] 0 (.fresh 0 0 (!w.params.followText "set-order")) } := Heap.get?_push_of_some _ hS
          exact txR_fresh hget
        case hR =>
          intro s' hm hS' hkp
          obtain ⟨h', g2, d', tk', os'⟩ := s'
          have eg : g2 = s.gens := hm.gens
          have ed : d' = s.drawn := hm.drawn
          have eo : os' = s.os := hm.os
          subst eg; subst ed; subst eo
          show wpAny _ _ _ _ _ _
          refine wpAny_pure ?_
          show wpAny _ _ (ret Value.none) _ _ _
          rw [hisz] at hS'
          exact wpAny_pure ⟨rfl, h', tk', rfl, hS', hkp⟩

      · cases r₂ with
        | error e => exact hr₂
        | ok fl₂ =>
          cases fl₂ with
          | ret r =>
            obtain ⟨rfl, h', tk, rfl, hS', hk'⟩ := hr₂
            repeat (any_goals (first | assumption | wp_step))
            exact h _ _ hS' hk'
          | _ => exact hr₂.elim
    | _ => exact hr.elim
end
end DL

set_option Elab.async false
set_option linter.all false
set_option maxRecDepth 100000
set_option maxHeartbeats 4000000
set_option autoImplicit false
/-! Data layer: sorted(set(texts)), its end. -/
namespace DL
open PySem PySem.Spec PyProof.Rows L2

def leT (a b : Str) : Bool := decide (a.cps.toList ≤ b.cps.toList)
def sortT (l : List Str) : List Str := l.mergeSort leT
theorem leT_trans (a b c : Str) : leT a b = true → leT b c = true → leT a c = true := fun h g => decide_eq_true (List.le_trans (of_decide_eq_true h) (of_decide_eq_true g))
theorem leT_total (a b : Str) : (leT a b || leT b a) = true := by
  rw [Bool.or_eq_true]
  exact (List.le_total a.cps.toList b.cps.toList).imp decide_eq_true decide_eq_true
theorem strT_ext {a b : Str} (h : a.cps.toList = b.cps.toList) : a = b := by
  cases a; cases b
  exact congrArg Str.mk (Array.toList_inj.mp h)
theorem leT_anti (a b : Str) (h : leT a b = true) (g : leT b a = true) : a = b := strT_ext (List.le_antisymm (of_decide_eq_true h) (of_decide_eq_true g))
theorem sortT_pairwise (l : List Str) : (sortT l).Pairwise (fun a b => leT a b = true) := List.pairwise_mergeSort (le := leT) leT_trans leT_total l
theorem sortT_perm (l : List Str) : (sortT l).Perm l := List.mergeSort_perm l leT
theorem sortT_congr {l l' : List Str} (h : l'.Perm l) : sortT l' = sortT l :=
  List.Perm.eq_of_pairwise (le := fun a b => leT a b = true) (fun a b _ _ => leT_anti a b) (sortT_pairwise l') (sortT_pairwise l) (((sortT_perm l').trans h).trans (sortT_perm l).symm)
section
open PySem.Froz PySem.W
variable {P : Program} {w : World} {A : Around} {E : Value → Shared → Prop} {s : Shared}
theorem txts_of : ∀ (vs : List Value), (∀ v ∈ vs, isTxV v = true) → StrsAre vs (vs.map txV)
  | [], _ => .nil
  | v :: vs, h => by
    have h1 := h v List.mem_cons_self
    match v, h1 with
    | .str x t, _ => exact .cons x t (txts_of vs fun u hu => h u (List.mem_cons_of_mem _ hu))
theorem each_strs : ∀ {vs : List Value} {xs : List Str}, EachIs (fun (v : Value) (x : Str) => ∃ t, v = .str x t) vs xs → StrsAre vs xs
  | _, _, .nil => .nil
  | _, _, .cons h t => by
    obtain ⟨u, rfl⟩ := h
    exact .cons _ u (each_strs t)
theorem strs_each {h : Heap} : ∀ {vs : List Value} {xs : List Str}, StrsAre vs xs → EachIs (fun (v : Value) (x : Str) => ∃ t, v = .str x t) vs xs
  | _, _, .nil => .nil
  | _, _, .cons x t r => .cons ⟨t, rfl⟩ (strs_each (h := h) r)
theorem sorted_setTx {a : Addr} {l : List Str} {Q : Value → Shared → Prop} (R : TxR P w s.heap a l) (hh : A.handled = none) (hb : l.length < scanBound) (hz : l.length ≤ sizeLine) (hu : A.units + 8 < cLine)
    (hQ : ∀ s' p (out : Array Value) (c : Nat), (∀ b o, s.heap.get? b = some o → s'.heap.get? b = some o) → s'.gens = s.gens → s'.os = s.os → s.heap.objs.size ≤ p →
      s'.heap.get? p = some (seqObj "list" out c) → StrsAre out.toList (sortT l) → Q (.ref p) s') :
    wpAny (model P w) A (call (.builtin "sorted") [.ref a]) Q E s := by
  obtain ⟨D, ho, F, r, ld, pm, tx, nd⟩ := R
  have hsz : D.1.size = l.length := F.sz
  refine Calls.call_function_entry kind_sorted plain_sorted entry_sorted (args_sorted1 _) ?_
  unfold Builtin.«sorted»
  refine wpAny_bind (m := checkCount "sorted" 1 1 _) (wpAny_pure ?_)
  refine wpAny_bind (collect_set (A := A.in1) hh ⟨_, ho, rfl, rfl⟩ F.fit (by omega) r ld fun s1 vs k1 hz1 g1 o1 pv => ?_)
  have hvl : vs.length = l.length := by rw [pv.length_eq, List.length_map, Array.length_toList]; exact hsz
  have hvt : ∀ v ∈ vs, isTxV v = true := fun v hv => by
    obtain ⟨e, he, q⟩ := List.mem_map.mp (pv.mem_iff.mp hv)
    rw [← q]; exact tx e he
  have pl : (vs.map txV).Perm l := by
    have := pv.map txV
    rw [List.map_map] at this
    exact this.trans pm
  have hI := txts_of vs hvt
  refine wpAny_bind (wpAny_newList ?_ (by rw [hvl]; omega))
  have hoL : (s1.heap.push (seqObj "list" vs.toArray 0)).get? s1.heap.objs.size = some (seqObj "list" vs.toArray 0) := Heap.get?_push_size _ rfl
  refine wpAny_bind (wpAny_holding (list_sort_data (s := { s1 with heap := s1.heap.push (seqObj "list" vs.toArray 0) }) (enc := fun x : Str => PyData.str x) hoL (strs_each (h := s1.heap) hI) (EachIs.mono (fun v x ⟨t, e⟩ => by subst e; exact ⟨[], .str x t, by simp⟩) (strs_each (h := s1.heap) hI))
    (AllAlike.of fun b b' => by simp [alike]) (Sortable.others fun b => ⟨(by simp), fun xs => (by simp)⟩) (by rw [List.length_map, hvl]; exact hz) (fun b _ => by show A.units + 1 + 1 + (PyData.str b).depth < cLine; simp only [PyData.depth]; omega) fun out h1 h2 => ?_))
  obtain ⟨c, hc⟩ := sortedHeap_at (vs := vs) (out := List.toArray out) hoL
  refine wpAny_pure ⟨_, rfl, hQ _ s1.heap.objs.size (List.toArray out) c (fun b u e => ?_) g1 o1 hz1 hc ?_⟩
  · have q := k1 b u e
    have hlt := Heap.lt_size q
    show (sortedHeap (s1.heap.push (seqObj "list" vs.toArray 0)) s1.heap.objs.size vs (List.toArray out)).get? b = some u
    rw [sortedHeap_old (Nat.ne_of_lt hlt) (by rw [size_push']; exact Nat.lt_succ_of_lt hlt)]
    exact Heap.get?_push_of_some _ q
  · have := each_strs h2
    rw [dataLe_str (fun x => x)] at this
    rw [← sortT_congr pl]
    exact this
end
end DL

set_option Elab.async false
set_option linter.all false
set_option maxRecDepth 100000
set_option maxHeartbeats 4000000
set_option autoImplicit false
/-! Data layer: slices with steps. -/
namespace DL
open PySem PySem.Spec PyProof.Rows L2

def idxS (n : Nat) (lo hi : Option Int) (k : Int) : List Nat := sliceRange (sliceBounds lo hi (some k) n).1 (sliceBounds lo hi (some k) n).2.1 (sliceBounds lo hi (some k) n).2.2
def stepS {A : Type} (xs : List A) (lo hi : Option Int) (k : Int) : List A := (idxS xs.length lo hi k).filterMap fun (i : Nat) => xs[i]?
theorem pick_step (its : List Value) (lo hi : Option Int) (k : Int) : slicePick its.toArray lo hi (some k) = (stepS its lo hi k).toArray := by
  unfold slicePick stepS idxS
  simp
def SlRs (X : Cx) (r : V → Option Int → Option Int → Int → Hp → VK → Prop) : Prop :=
  ∀ (pins : List (Addr × Obj)) (s : Shared) (σ : L2.St) (H : Hp) (x : V) (v vl vu vk : Value) (lo hi : Option Int) (k : Int) (sl : Addr) (Q : VK), Inv X pins σ H s → RelV x v → s.heap.IsSliceOf sl vl vu vk → IsPart vl lo → IsPart vu hi → IsPart vk (some k) → r x lo hi k H Q →
    ∃ T id, typeLookup (.type T) "__getitem__" = pure (some (.builtin id)) ∧ s.TypeIs v T ∧ wpAny (model X.prog X.w) X.A (getItem v (.ref sl)) (EP X pins σ Q) X.xe s
def tSlS (r : V → Option Int → Option Int → Int → Hp → VK → Prop) (te : TE) (tl th tk : TO) : TE := fun σ H Q => te σ H fun x H1 => tl σ H1 fun l H2 => th σ H2 fun u H3 => tk σ H3 fun k H4 => ∃ k', k = some k' ∧ r x l u k' H4 Q
section
variable {X : Cx} {e st : Expr} {te : TE} {lo hi : Option Expr} {tl th tk : TO} {pos p2 : Pos}
theorem pe_sliceS {r : V → Option Int → Option Int → Int → Hp → VK → Prop} (hr : SlRs X r) (he : PE X e te) (hl : PO X lo tl) (hu : PO X hi th) (hk : PO X (some st) tk) : PE X (.Subscript e (.Slice lo hi (some st) p2) pos) (tSlS r te tl th tk) := by
  refine ⟨fun pins s σ H Q I h => ?_⟩
  refine Subscript_ (thn (he.run pins s σ H _ I h) fun v s1 ⟨x, H1, I1, r1, q1⟩ => ?_)
  refine wpAny_Slice (thn (hl.run pins s1 σ H1 _ I1 q1) fun vl s2 ⟨l, H2, I2, pl, q2⟩ => thn (hu.run pins s2 σ H2 _ I2 q2) fun vu s3 ⟨u, H3, I3, pu, q3⟩ => thn (hk.run pins s3 σ H3 _ I3 q3) fun vk s4 ⟨k, H4, I4, pk, k', ek, q4⟩ => ?_)
  subst ek
  have I5 : Inv X pins σ H4 { s4 with heap := s4.heap.push { cls := .type "slice", data := .fields #[vl, vu, vk] } } := I4.kept (t' := s4.toks) fun b ob q => Heap.get?_push_of_some _ q
  obtain ⟨T, id, hT, ht, hg⟩ := hr pins { s4 with heap := s4.heap.push { cls := .type "slice", data := .fields #[vl, vu, vk] } } σ H4 x v vl vu vk l u k' s4.heap.objs.size Q I5 r1 (Heap.IsSliceOf.new ..) pl pu pk q4
  show wpAny (model X.prog X.w) X.A (subscriptTail e (.Slice lo hi (some st) p2) v (.ref s4.heap.objs.size)) (EP X pins σ Q) X.xe { s4 with heap := s4.heap.push { cls := .type "slice", data := .fields #[vl, vu, vk] } }
  exact tail_any (ops := [v, .ref s4.heap.objs.size]) ht hT hg (by with_unfolding_all rfl)
theorem SlRs.or {r r' : V → Option Int → Option Int → Int → Hp → VK → Prop} (h : SlRs X r) (h' : SlRs X r') : SlRs X (fun x lo hi k H Q => r x lo hi k H Q ∨ r' x lo hi k H Q) := by
  intro pins s σ H x v vl vu vk lo hi k sl Q I rx hs pl pu pk q
  rcases q with q | q
  · exact h pins s σ H x v vl vu vk lo hi k sl Q I rx hs pl pu pk q
  · exact h' pins s σ H x v vl vu vk lo hi k sl Q I rx hs pl pu pk q
theorem vals_step {us : List V} {vs : List Value} (h : Vals us vs) (is : List Nat) : Vals (is.filterMap fun (i : Nat) => us[i]?) (is.filterMap fun (i : Nat) => vs[i]?) := by
  induction is with
  | nil => exact .nil
  | cons i is ih =>
    rw [List.filterMap_cons, List.filterMap_cons]
    cases e : us[i]? with
    | none =>
      have : vs[i]? = none := by rw [List.getElem?_eq_none_iff] at e ⊢; rw [← h.length]; exact e
      rw [this]
      exact ih
    | some u =>
      obtain ⟨v, e2, r⟩ := h.get e
      rw [e2]
      exact .cons r ih
def rSlLs (K : PySem.W.Frag) : V → Option Int → Option Int → Int → Hp → VK → Prop := fun x lo hi k H Q => ∃ a xs, x = .ref a ∧ SqL K H a xs ∧ k ≠ 0 ∧ (stepS xs lo hi k).length ≤ sizeLine ∧ ∀ p, H p = none → Q (.ref p) (upd H p (.lst (stepS xs lo hi k)))
theorem sl_listS : SlRs X (rSlLs X.K) := by
  intro pins s σ H x v vl vu vk lo hi k sl Q I rx hs pl pu pk h
  obtain ⟨a, xs, rfl, hx, h0, hz2, q⟩ := h
  cases rx
  obtain ⟨its, r, ht, hz⟩ := I.list hx
  have hlen := r.length
  refine ⟨"list", _, slot_list_getitem.lookup, ht.isList.typeIs, ?_⟩
  refine wpAny_getItem_list_slice ht.isList hs pl pu pk (fun z => h0 (Option.some.inj z)) ?_ (by rw [List.size_toArray] <;> omega)
  rw [pick_step]
  refine ⟨.ref s.heap.objs.size, _, I.laid (t' := s.toks) (o := .lst (stepS xs lo hi k)) (fun b ob q => Heap.get?_push_of_some _ q) (Nat.le_refl _) ?_, rfl, q _ (I.hok.fresh (Nat.le_refl _))⟩
  refine ⟨hz2, stepS its lo hi k, 0, ?_, Heap.get?_push_size _ rfl⟩
  unfold stepS
  rw [hlen]
  exact vals_step r _
end
section
variable {prog : Program} {w : World} {A : Around} {E : Value → Shared → Prop} {s : Shared}
theorem places_rev (n : Nat) : Builtin.Slice.slicePlaces ((n : Int) - 1) (-1) (-1) = n := by
  unfold Builtin.Slice.slicePlaces
  have h1 : ¬ ((-1 : Int) > 0) := by decide
  simp only [h1, if_false]
  by_cases h : (n : Int) - 1 > -1
  · rw [if_pos h]
    have e : ((n : Int) - 1 - -1 - 1) / (- -1) + 1 = n := by
      rw [show (- -1 : Int) = 1 by decide, Int.ediv_one]
      omega
    rw [e, Int.toNat_natCast]
  · rw [if_neg h]
    have e : n = 0 := by omega
    subst e
    rfl
theorem rev_places (items : Array Value) : (List.range items.size).filterMap (fun (m : Nat) => items[((items.size : Int) - 1 + (m : Int) * -1).toNat]?) = items.toList.reverse := by
  have h1 : (List.range items.size).filterMap (fun (m : Nat) => items[((items.size : Int) - 1 + (m : Int) * -1).toNat]?) = ((List.range items.size).map fun k => items.size - 1 - k).filterMap (items[·]?) := by
    rw [List.filterMap_map]
    generalize hn : List.range items.size = l
    have hl : ∀ m ∈ l, m < items.size := fun m hm => List.mem_range.mp (hn ▸ hm)
    clear hn
    induction l with
    | nil => rfl
    | cons m l ih =>
      have hm := hl m List.mem_cons_self
      have e : ((items.size : Int) - 1 + (m : Int) * -1).toNat = items.size - 1 - m := by omega
      rw [List.filterMap_cons, List.filterMap_cons, ih fun z hz => hl z (List.mem_cons_of_mem _ hz), e]
      rfl
  rw [h1, PySem.W.krv_range, List.filterMap_reverse, PySem.W.krv_all]
open HT in
theorem getItem_tuple_rev {t sl : Addr} {items : Array Value} {vk : Value} {Q : Value → Shared → Prop} (ht : IsTup s.heap t items) (hs : s.heap.IsSliceOf sl .none .none vk) (pk : IsPart vk (some (-1)))
    (h : Q (.ref s.heap.objs.size) { s with heap := s.heap.push { cls := .type "tuple", data := .seq items.toList.reverse.toArray } })
    (hsz : items.size ≤ sizeLine) : wpAny (model prog w) A (getItem (.ref t) (.ref sl)) Q E s := by
  have htake : sizeOk (.seq items.toList.reverse.toArray) := by
    show items.toList.reverse.toArray.size ≤ sizeLine
    rw [List.size_toArray, List.length_reverse, Array.length_toList]
    exact hsz
  obtain ⟨os, hos, hcs, hds⟩ := id hs
  have hTs : s.TypeIs (.ref sl) "slice" := ⟨os, hos, hcs⟩
  unfold getItem
  try with_reducible refine wpAny_holding ?_
  first | refine wpAny_bind (wpAny_pure ?_) | skip
  refine wpAny_bind (wpAny_sequenceKey ht.typeIs (by decide) ?_)
  refine wpAny_bind (wpAny_callSpecial?_slot (name := Str.ofString "__getitem__") ht.typeIs PyProof.Rows.slot_tuple_getitem
    (wpAny_call_entry PyProof.Rows.slot_tuple_getitem ht.typeIs entry_tuple_getitem ?_ (args_tuple_getitem _ _)))
  show wpAny _ _ (Builtin.Tuple.tupleItemsOf (.ref t) >>= _) _ _ s
  refine wpAny_bind (tupleItemsOf_ ht ?_)
  refine wpAny_bind (wpAny_typeOf hTs ?_)
  rw [if_pos (by decide)]
  have ap : ∀ {R : Int × Int × Nat → Shared → Prop}, R ((items.size : Int) - 1, -1, items.size) s → wpAny (model prog w) A.in1 (Builtin.Slice.sliceApplied (.ref sl) (pure (items.size : Int))) R E s := by
    intro R hR
    unfold Builtin.Slice.sliceApplied Builtin.Slice.sliceFields
    refine wpAny_bind (wpAny_bind (wpAny_field hos hds (x := .none) rfl (wpAny_bind (wpAny_field hos hds (x := .none) rfl (wpAny_bind (wpAny_field hos hds (x := vk) rfl (wpAny_pure ?_)))))))
    refine wpAny_bind (slicePart_ pk ?_)
    show wpAny _ _ (if ((-1 : Int) == 0) = true then _ else _) _ _ s
    rw [if_neg (by decide)]
    refine wpAny_bind (slicePart_none (wpAny_bind (slicePart_none (wpAny_bind (wpAny_pure ?_)))))
    show wpAny _ _ (pure ((items.size : Int) - 1, (-1 : Int), Builtin.Slice.slicePlaces ((items.size : Int) - 1) (-1) (-1))) _ _ s
    rw [places_rev]
    exact wpAny_pure hR
  refine wpAny_bind (ap ?_)
  have hno : ¬ ((((items.size : Int) - 1) == 0 && (-1 : Int) == 1 && items.size == items.size) = true) := by
    intro q
    rw [Bool.and_eq_true, Bool.and_eq_true] at q
    exact absurd q.1.2 (by decide)
  show wpAny _ _ (if (((items.size : Int) - 1) == 0 && (-1 : Int) == 1 && items.size == items.size) = true then _ else _) _ _ s
  rw [if_neg hno, rev_places]
  first
    | exact wpAny_bind (m := Builtin.Tuple.tupleExact _) (wpAny_newObj_type (wpAny_pure ⟨_, rfl, wpAny_pure h⟩) htake)
    | exact wpAny_bind (m := Builtin.Tuple.tupleExact _) (wpAny_newObj_type (wpAny_bind (wpAny_pure (wpAny_pure ⟨_, rfl, wpAny_pure h⟩))) htake)
    | exact wpAny_bind (wpAny_bind (m := Builtin.Tuple.tupleExact _) (wpAny_newObj_type (wpAny_pure (wpAny_pure ⟨_, rfl, wpAny_pure h⟩)) htake))
    | exact wpAny_bind (wpAny_bind (m := Builtin.Tuple.tupleExact _) (wpAny_newObj_type (wpAny_pure ⟨_, rfl, wpAny_pure h⟩) htake))
end
section
variable {X : Cx}
def rSlTs (K : PySem.W.Frag) : V → Option Int → Option Int → Int → Hp → VK → Prop := fun x lo hi k H Q => ∃ a xs, x = .ref a ∧ SqT K H a xs ∧ lo = none ∧ hi = none ∧ k = -1 ∧ TLays H xs.reverse Q
theorem sl_tupS : SlRs X (rSlTs X.K) := by
  intro pins s σ H x v vl vu vk lo hi k sl Q I rx hs pl pu pk h
  obtain ⟨a, xs, rfl, hx, rfl, rfl, rfl, q⟩ := h
  cases rx
  obtain ⟨its, r, ht, hz⟩ := I.tuple hx
  cases pl
  cases pu
  refine ⟨"tuple", _, PyProof.Rows.slot_tuple_getitem.lookup, ht.typeIs, ?_⟩
  refine getItem_tuple_rev ht hs pk ?_ (by rw [List.size_toArray, ← r.length]; exact hz)
  have rr : Vals xs.reverse its.reverse := r.reverse
  exact ⟨.ref s.heap.objs.size, _, I.laid (t' := s.toks) (o := .frz (tupObj its.reverse.toArray) (.tup xs.reverse)) (fun b ob q => Heap.get?_push_of_some _ q) (Nat.le_refl _) (tup_frz (by rw [List.length_reverse]; exact hz) rr), rfl, q _ (I.hok.fresh (Nat.le_refl _)) _ rfl⟩
end
/-! ### by data -/
def rStep (a : RE) (l h k : RO) : RE := fun δ S => (a δ S).bind fun d S1 => (l δ S1).bind fun i S2 => (h δ S2).bind fun j S3 => (k δ S3).bind fun z S4 => match z with
  | some n => (match deref S4 d with
    | .lst xs => if n ≠ 0 ∧ (stepS xs i j n).length ≤ sizeLine then .ok (.lst (stepS xs i j n)) S4 else .stuck
    | .tup xs => if i = none ∧ j = none ∧ n = -1 then .ok (.tup xs.reverse) S4 else .stuck
    | _ => .stuck)
  | none => .stuck
section
variable {X : Cx} {W : WX} {a st : Expr} {ra : RE} {pos p2 : Pos} {lo hi : Option Expr} {ol oh ok : RO} {wd : World} {K : Fg} {mg : Str → Option Value} {α : List Addr} {F : Hp}
theorem step_DVs {us : List V} {xs : List D} (h : DVs wd K mg F α us xs) (is : List Nat) : DVs wd K mg F α (is.filterMap fun (i : Nat) => us[i]?) (is.filterMap fun (i : Nat) => xs[i]?) := by
  induction is with
  | nil => exact .nil
  | cons i is ih =>
    rw [List.filterMap_cons, List.filterMap_cons]
    cases e : xs[i]? with
    | none =>
      have : us[i]? = none := by rw [List.getElem?_eq_none_iff] at e ⊢; rw [h.length]; exact e
      rw [this]
      exact ih
    | some u =>
      obtain ⟨v, e2, r⟩ := h.get e
      rw [e2]
      exact .cons r ih
theorem pd_step (ha : PD X W a ra) (hl : POd X W lo ol) (hh : POd X W hi oh) (hk : POd X W (some st) ok) : PD X W (.Subscript a (.Slice lo hi (some st) p2) pos) (rStep ra ol oh ok) := by
  obtain ⟨ta, pa, sa⟩ := ha.ex
  obtain ⟨tl, pl, sl⟩ := hl.ex
  obtain ⟨th, ph, sh⟩ := hh.ex
  obtain ⟨tk, pk, sk⟩ := hk.ex
  refine ⟨_, pe_sliceS (sl_listS.or sl_tupS) pa pl ph pk, fun α F σ H δ S Q hr hs h => ?_⟩
  refine sa α F σ H δ S _ hr hs (wp.bind h fun d S1 _ x H1 β F1 r1 q1 v1 h1 => ?_)
  refine sl (α ++ β) F1 σ H1 δ S1 _ r1 (hs.mono q1.sub) (wp.bind h1 fun i S2 _ i' H2 γ F2 r2 q2 v2 h2 => ?_)
  have v2 : i' = i := v2
  subst v2
  refine sh (α ++ β ++ γ) F2 σ H2 δ S2 _ r2 ((hs.mono q1.sub).mono q2.sub) (wp.bind h2 fun j S3 _ j' H3 ε F3 r3 q3 v3 h3 => ?_)
  have v3 : j' = j := v3
  subst v3
  refine sk (α ++ β ++ γ ++ ε) F3 σ H3 δ S3 _ r3 (((hs.mono q1.sub).mono q2.sub).mono q3.sub) (wp.bind h3 fun k S4 _ k' H4 ζ F4 r4 q4 v4 h4 => ?_)
  have v4 : k' = k := v4
  subst v4
  have vx := ((v1.mono (β := γ) q2.sub).mono (β := ε) q3.sub).mono (β := ζ) q4.sub
  cases k' with
  | none => exact h4.elim
  | some n =>
  dsimp only at h4
  split at h4
  · rename_i xs e1
    split at h4
    · rename_i hc
      obtain ⟨l, us, rfl, a1, a2⟩ := r4.viewL vx e1
      have el : (stepS us i' j' n).length = (stepS xs i' j' n).length := by
        unfold stepS
        rw [a2.length]
        exact (step_DVs a2 _).length
      refine ⟨n, rfl, .inl ⟨l, us, rfl, a1, hc.1, by rw [el]; exact hc.2, fun p hp => ?_⟩⟩
      have dv : DVs X.w X.K X.mg F4 (α ++ β ++ γ ++ ε ++ ζ) (stepS us i' j' n) (stepS xs i' j' n) := by
        unfold stepS
        rw [a2.length]
        exact step_DVs a2 _
      obtain ⟨c1, c2, c3⟩ := r4.lst dv hp
      exact h4 _ _ _ _ c1 c2 c3
    · exact h4.elim
  · rename_i xs e1
    split at h4
    · rename_i hc
      obtain ⟨g1, g2, g3⟩ := hc
      obtain ⟨l, us, rfl, a1, a2⟩ := r4.viewT vx e1
      refine ⟨n, rfl, .inr ⟨l, us, rfl, a1, g1, g2, g3, fun p hp o ho => ?_⟩⟩
      obtain ⟨c1, c2, c3⟩ := r4.tup a2.reverse hp ho
      exact h4 _ _ _ _ c1 c2 c3
    · exact h4.elim
  · exact h4.elim
end
end DL

set_option Elab.async false
set_option linter.all false
set_option maxRecDepth 100000
set_option maxHeartbeats 4000000
set_option autoImplicit false
/-! Data layer: sorted(set(texts)), zip of tuples, calls of defs that a name holds. -/
namespace DL
open PySem PySem.Spec PyProof.Rows L2

/-! ### sorted(set(texts)) -/
def setT (ts : List Str) : List Str := sortT (gotL ts ts.length)
def SetX (P : Program) (w : World) (a : Addr) (l : List Str) : HO := .ext fun h => TxR P w h a l
theorem setX_new {P : Program} {w : World} {H : Hp} {h : Heap} {a : Addr} {l : List Str} (R : TxR P w h a l) : ObjOk P w H h a (SetX P w a l) := by
  have ⟨D, ho, q⟩ := R
  exact ⟨R, ⟨_, ho⟩, fun h1 h2 p k => p.keep fun o e => k o e⟩
section
variable {X : Cx}
theorem strs_of_vals {ts : List Str} {us : List Value} (h : Vals (ts.map V.str) us) : StrsAre us ts := by
  induction ts generalizing us with
  | nil => rw [List.map_nil] at h; cases h; exact .nil
  | cons t ts ih =>
    rw [List.map_cons] at h
    cases h with
    | cons r1 r2 =>
      obtain ⟨tk, rfl⟩ := r1
      exact .cons t tk (ih r2)
theorem vals_of_strs {ts : List Str} {us : List Value} (h : StrsAre us ts) : Vals (ts.map V.str) us := by
  induction h with
  | nil => exact .nil
  | cons x t _ ih => exact .cons ⟨t, rfl⟩ ih
theorem cr_setTx (hc : X.calm = true) : CallR X (.type "set") (fun xs H Q => ∃ (l : Addr) (ts : List Str), xs = [.ref l] ∧ SqL X.K H l (ts.map V.str) ∧ ts.length + 1 < scanBound ∧ ∀ p, H p = none → Q (.ref p) (upd H p (SetX X.prog X.w p (gotL ts ts.length)))) := by
  intro pins s σ H xs us Q I r h
  obtain ⟨l, ts, rfl, hl, hf, q⟩ := h
  rw [Vals.ref1 r]
  obtain ⟨its, rv, pl, hz⟩ := I.list hl
  have hn : H s.heap.objs.size = none := I.hok.fresh (Nat.le_refl _)
  refine call_set_txt ts (I.ok.hd hc) pl.isList (by simpa using strs_of_vals rv) hf fun h' tk R k => ?_
  exact ⟨.ref s.heap.objs.size, upd H s.heap.objs.size (SetX X.prog X.w s.heap.objs.size (gotL ts ts.length)), I.laid (t' := tk) k (Nat.le_refl _) (setX_new R), rfl, q _ hn⟩
theorem cr_sortedTx (hc : X.calm = true) (hu : X.A.units + 64 < cLine) : CallR X (.builtin "sorted") (fun xs H Q => ∃ (a : Addr) (l : List Str), xs = [.ref a] ∧ H a = some (SetX X.prog X.w a l) ∧ l.length < scanBound ∧ l.length ≤ sizeLine ∧ ∀ p, H p = none → Q (.ref p) (upd H p (.lst ((sortT l).map V.str)))) := by
  intro pins s σ H xs us Q I r h
  obtain ⟨a, l, rfl, ha, hb, hz, q⟩ := h
  rw [Vals.ref1 r]
  have R0 : TxR X.prog X.w s.heap a l := (I.hok a _ ha).1
  refine sorted_setTx R0 (I.ok.hd hc) hb hz (by omega) fun s' p out c k g o hp hg hout => ?_
  have hlen : ((sortT l).map V.str).length ≤ sizeLine := by rw [List.length_map, (sortT_perm l).length_eq]; exact hz
  have hn : H p = none := I.hok.fresh hp
  have J : Inv X pins σ (upd H p (.lst ((sortT l).map V.str))) { s with heap := s'.heap, gens := s'.gens, drawn := s'.drawn, toks := s'.toks } :=
    I.call (ch := []) (Un.laid k hp hn) (I.hok.laid k hp ⟨hlen, out.toList, c, vals_of_strs hout, hg⟩) (by rw [g]; exact I.bare) (fun _ z => nomatch z)
  have e : s' = { s with heap := s'.heap, gens := s'.gens, drawn := s'.drawn, toks := s'.toks } := by
    cases s'
    cases s
    cases o
    rfl
  rw [e]
  exact ⟨.ref p, _, J, rfl, q p hn⟩
end
def rSortSet (a : RE) : RE := fun δ S => (a δ S).bind fun d S1 => match deref S1 d with
  | .lst xs => (match asStrs xs with
    | some ts => if ts.length + 1 < scanBound ∧ ts.length ≤ sizeLine then .ok (.lst ((setT ts).map .str)) S1 else .stuck
    | none => .stuck)
  | _ => .stuck
section
variable {X : Cx} {W : WX} {a b c e tg : Expr} {es rest : List Expr} {ra rb rc : RE} {rs : RA} {pos p p2 pos2 : Pos}
theorem pf_sortSet (hc : X.calm = true) (hu : X.A.units + 64 < cLine) (hm : X.mg "sorted" = none) (hm2 : X.mg "set" = none) (ha : PD X W a ra) (hg : Gl X "sorted" := by rfl) (hg2 : Gl X "set" := by rfl)
    (he : starEach [.Call (.Name "set" p2) [a] [] pos2] X.env = (false, eval (.Call (.Name "set" p2) [a] [] pos2) X.env) :: starEach [] X.env := by rfl) (hpl : (backTo pos (starEach [] X.env)).any (·.1) = false := by rfl)
    (he2 : starEach [a] X.env = (false, eval a X.env) :: starEach [] X.env := by rfl) (hpl2 : (backTo pos2 (starEach [] X.env)).any (·.1) = false := by rfl) :
    PF X W (.Call (.Name "sorted" p) [.Call (.Name "set" p2) [a] [] pos2] [] pos) (rSortSet ra) := by
  obtain ⟨ta, pa, sa⟩ := ha.ex
  refine ⟨_, pe_callB (cr_sortedTx hc hu) hg hm (by decide +kernel) (pa_cons (pe_callTy (cr_setTx hc) hg2 hm2 (by decide +kernel) (pa_cons pa pa_nil he2) (by decide) (by decide) he2 hpl2) pa_nil he) (by decide) (by decide) he hpl, fun α F σ H δ S Q hr hs h => ?_⟩
  refine sa α F σ H δ S _ hr hs (wpF.bind h fun d S1 _ x H1 β F1 r1 q1 v1 h1 => ?_)
  split at h1
  · rename_i xs e1
    split at h1
    · rename_i ts e2
      split at h1
      · rename_i hl
        obtain ⟨l, us, rfl, a1, a2⟩ := r1.viewL v1 e1
        rw [asStrs_eq e2] at a2
        have := DVs.strs a2
        subst this
        refine ⟨l, ts, rfl, a1, hl.1, fun p hp => ?_⟩
        have n := r1.notin hp
        have f := r1.notF hp
        have gl := gotL_length ts ts.length
        refine ⟨p, gotL ts ts.length, rfl, upd_same, by omega, by omega, fun q hq => ?_⟩
        have r2 : Rel X.w X.K X.mg (α ++ β) F1 (upd H1 p (SetX X.prog X.w p (gotL ts ts.length))) S1 := r1.other n f
        have s2 : Stp (α ++ β) F1 H1 [] F1 (upd H1 p (SetX X.prog X.w p (gotL ts ts.length))) := Stp.refl.other hp
        have h2 := wpF.step s2 h1
        rw [List.append_nil] at h2
        exact wpF.lay h2 r2 hq ⟨_, upd_same, DVs.of_strs _⟩ rfl
      · exact h1.elim
    · exact h1.elim
  · exact h1.elim
/-! ### zip of two lists, of two tuples -/
def rZipA (a : RA) : RA := fun δ S => (a δ S).bind fun xs S1 => match xs with
  | [.lst ds, .lst es] => .ok (zipD ds es) S1
  | [.tup ds, .tup es] => .ok (zipD ds es) S1
  | _ => .stuck
end
section
variable {wd : World} {K : Fg} {mg : Str → Option Value} {α : List Addr} {F H : Hp} {S : Sto}
theorem it_zipT {l m : Addr} {us ws : List V} {ds es : List D} (h : SqT K F l us) (hv : DVs wd K mg F α us ds) (g : SqT K F m ws) (gv : DVs wd K mg F α ws es) : ItOk wd K mg F α (RZ.ItzT K l m) (zipD ds es) where
  go := fun F' H' i a b hi => by
    rw [zipD_len] at hi
    obtain ⟨v, e1, _⟩ := hv.get (List.getElem?_eq_getElem (by omega : i < ds.length))
    obtain ⟨u, e2, _⟩ := gv.get (List.getElem?_eq_getElem (by omega : i < es.length))
    exact ⟨us, ws, v, u, (a.trans b).sqT h, (a.trans b).sqT g, e1, e2⟩
  stop := fun F' H' a b => ⟨us, ws, (a.trans b).sqT h, (a.trans b).sqT g, by rw [hv.length, gv.length, zipD_len]; omega⟩
  yld := fun F' H' H2 i x d a b hd ⟨T, y, y2, e1, e2, e3, e4, e5⟩ => by
    have f1 := e4 us ((a.trans b).sqT h)
    have f2 := e5 ws ((a.trans b).sqT g)
    obtain ⟨p, q, e6, e7, rfl⟩ := zipD_get hd
    obtain ⟨v, e8, e9⟩ := hv.get e6
    rw [f1] at e8; cases e8
    obtain ⟨v2, e10, e11⟩ := gv.get e7
    rw [f2] at e10; cases e10
    subst e1
    have nF : F' T = none := by
      cases z : F' T with
      | none => rfl
      | some u => rw [b _ _ z] at e2; cases e2
    have sb := a.trans (Sub.new (o := .tup [y, y2]) nF)
    refine .inr ⟨T, _, e2, e3, .tux (SqT.of upd_same) (.cons ?_ (.cons ?_ .nil))⟩
    · have := e9.mono (β := []) sb
      rw [List.append_nil] at this; exact this
    · have := e11.mono (β := []) sb
      rw [List.append_nil] at this; exact this
end
section
variable {X : Cx} {W : WX} {a b c e tg : Expr} {es rest : List Expr} {ra rb rc : RE} {rs : RA} {pos p p2 pos2 : Pos}
theorem pid_zipA {elts : List Expr} {kk : Nat} {tpos : Pos} (hm : X.mg "zip" = none) (ha : PDs X W [a, b] rs) (hg : Gl X "zip" := by rfl) (hs : starEach [a, b] X.env = (false, eval a X.env) :: starEach [b] X.env := by rfl) (hpl : (backTo pos (starEach [b] X.env)).any (·.1) = false := by rfl) : PId X W (.Tuple elts kk tpos) (.Call (.Name "zip" p) [a, b] [] pos) (rZipA rs) := by
  obtain ⟨t, p1, s1⟩ := ha.ex
  refine ⟨_, RZ.pi_zipA hg hm p1 hs hpl, fun α F σ H δ S Q hr hs h => ?_⟩
  refine s1 α F σ H δ S _ hr hs (wp.bind h fun ds S1 e1 xs H1 β F1 r1 q1 v1 h1 => ?_)
  have hl := ha.len _ _ _ _ e1
  match ds, hl with
  | [d, d'], _ =>
    cases v1 with
    | cons v1 vn =>
      cases vn with
      | cons v2 vn =>
        cases vn
        cases d with
        | lst ys =>
          cases d' with
          | lst zs =>
            cases v1 with
            | lst a1 a2 => cases v2 with
              | lst b1 b2 => exact ⟨_, _, _, _, rfl, .inl ⟨r1.sub.sqL a1, r1.sub.sqL b1, h1.now r1 (it_zip a1 a2 b1 b2)⟩⟩
          | _ => exact h1.elim
        | tup ys =>
          cases d' with
          | tup zs =>
            cases v1 with
            | tup a1 a2 => cases v2 with
              | tup b1 b2 => exact ⟨_, _, _, _, rfl, .inr ⟨r1.sub.sqT a1.1, r1.sub.sqT b1.1, h1.now r1 (it_zipT a1.1 a2 b1.1 b2)⟩⟩
          | _ => exact h1.elim
        | _ => exact h1.elim
/-! ### a call of a def that a name holds -/
def rCallV (i : Nat) (ms : List (Str × Mir)) (a : RA) : RE := fun δ S => match δ[i]? with
  | some (some (.fn y)) => (match ms.lookup y with
    | some m => (a δ S).bind m
    | none => .stuck)
  | _ => .stuck
def tCallV (X : Cx) (W : WX) (i : Nat) (t : TA) : TE := fun σ H Q => ∃ (f : Addr) (fd : FuncData) (ps : List Str) (k : Nat) (sp : Sp), σ[i]? = some (some (.ref f)) ∧ FnG X.prog X.w X.K X.mg X.base k f fd ps sp ∧ Room k X.A ∧ PySem.W.keepIn X.K (.ref f) = true ∧ Binds X.K fd ps [] ∧ t σ H fun vs H1 => sp vs H1 Q (WE W σ)
theorem pd_callV {i n : Nat} {x : Str} {ms : List (Str × Mir)} (hall : ∀ y m, ms.lookup y = some m → ∃ k, Fn X.prog X.w X.K X.mg X.base y n k m ∧ Room k X.A) (hG : X.A.guards = some []) (tk : Takes X W) (ha : PDs X W (e :: es) rs) (hl : (e :: es).length = n := by rfl)
    (hN : X.N[i]? = some x := by rfl) (hv : Vis X.env.scope x := by first | exact Or.inl rfl | exact Or.inr (Or.inl rfl) | exact Or.inr (Or.inr rfl)) (hd : (x == ("__debug__" : Str)) = false := by decide) (hcd : (x == ("__classdict__" : Str)) = false := by decide)
    (he : starEach (e :: es) X.env = (false, eval e X.env) :: starEach es X.env := by rfl) (hpl : (backTo pos (starEach es X.env)).any (·.1) = false := by rfl) : PD X W (.Call (.Name x p) (e :: es) [] pos) (rCallV i ms rs) := by
  obtain ⟨t, pt, st⟩ := ha.ex
  refine ⟨tCallV X W i t, ⟨fun pins s σ H Q I h => ?_⟩, fun α F σ H δ S Q hr hs h => ?_⟩
  · obtain ⟨f, fd, ps, k, sp, h1, h2, h3, h4, h5, h6⟩ := h
    refine wpAny_Call_Name_kw (thn ((pe_var (pos := p) hN hv hd hcd).run pins s σ H (fun v H1 => v = .ref f ∧ H1 = H) I ⟨.ref f, h1, rfl, rfl⟩) fun u s1 ⟨v, H1, I1, r1, q1⟩ => ?_)
    obtain ⟨rfl, rfl⟩ := q1
    cases r1
    exact PySem.W.callWith_K (h₀ := X.base) I.ok.mod.kin h4 (thn (pt.run pos pins s1 σ _ _ I1 h6) fun us s2 ⟨vs, H2, I2, r, q⟩ => ⟨I2.kIn, h2.call h3 hG h5 tk I2 r q⟩) he hpl
  · unfold rCallV at h
    split at h
    · rename_i y e1
      split at h
      · rename_i m e2
        obtain ⟨k, F1, R1⟩ := hall y m e2
        obtain ⟨f, fd, ps, g1, g2, g3, g4⟩ := F1.ex
        obtain ⟨v, k1, k2⟩ := hs.2 i _ e1
        cases k2 with
        | fn k3 =>
          rw [g1] at k3
          cases k3
          refine ⟨f, fd, ps, k, _, k1, g4, R1, g2, g3, ?_⟩
          refine st α F σ H δ S _ hr hs (wp.bind h fun ds S1 e1 xs H1 β F1 r1 q1 v1 h1 => ?_)
          exact ⟨by rw [v1.length, ha.len _ _ _ _ e1]; exact hl, α ++ β, F1, S1, ds, r1, v1, h1⟩
      · exact h.elim
    · exact h.elim
end
end DL

set_option Elab.async false
set_option linter.all false
set_option maxRecDepth 100000
set_option maxHeartbeats 4000000
set_option autoImplicit false
/-! Data layer: defs as values, small things. -/
namespace DL
open PySem PySem.Spec PyProof.Rows L2
section
variable {X : Cx} {W : WX} {pos p : Pos} {k n : Nat}
theorem Env1.u10 (h : Env1 X k) : X.A.units + 10 < cLine := by have := h.room.un; omega
theorem Env1.u12 (h : Env1 X k) : X.A.units + 12 < cLine := by have := h.room.un; omega
theorem pd_fnv {x : Str} {m : Mir} (F : Fn X.prog X.w X.K X.mg X.base x n k m) (hg : Gl X x := by rfl) (hd : (x == ("__debug__" : Str)) = false := by decide) : PD X W (.Name x pos) (rC (.fn x)) := by
  obtain ⟨f, fd, ps, h1, _⟩ := F.ex
  exact pd_c (v := .ref f) (pe_glob hg h1 rfl hd) fun _ _ => .fn h1
def Hall (X : Cx) (n : Nat) (ms : List (Str × Mir)) : Prop := ∀ y m, ms.lookup y = some m → ∃ k, Fn X.prog X.w X.K X.mg X.base y n k m ∧ Room k X.A
theorem hall_nil : Hall X n [] := fun y m h => by cases h
theorem hall_cons {x : Str} {m : Mir} {ms : List (Str × Mir)} (F : Fn X.prog X.w X.K X.mg X.base x n k m) (R : Room k X.A) (h : Hall X n ms) : Hall X n ((x, m) :: ms) := fun y m' e => by
  rw [List.lookup_cons] at e
  cases q : y == x with
  | true =>
    rw [q] at e
    cases e
    have := eq_of_beq q
    subst this
    exact ⟨k, F, R⟩
  | false => rw [q] at e; exact h y m' e
end
/-! ### a def that leaves what it made in the store -/
def mDefK (n : Nat) (b : RS) : Mir := fun ds S => match b (ds.map some ++ List.replicate (n - ds.length) none) S with
  | .rt d S1 => .ok d S1
  | .nx _ S1 => .ok .non S1
  | .err c fs _ S1 => .err c fs S1
  | _ => .stuck
theorem fn_okK {P : Program} {w : World} {K : Fg} {mg : Str → Option Value} {base : Heap} {x qual : Str} {st : Stmt} {f : Addr} {fd : FuncData} {N ps : List Str} {k : Nat} {r : RS} (Fu : Fun K x qual st f fd) (Sc : FnScope N ps (defScope st))
    (hbody : ∀ (cdv : Value) (A : Around) (outer : List Env) (s : Shared) (H : Hp) (E : XK), Room k (A.deeper (envOfC qual (defScope st) s.heap.objs.size f cdv)) → A.guards = some [] → PSds (cxOf (L2.CX P w) P w K mg base N qual (defScope st) f cdv A outer s H E) (fun cls d _ H => E cls d H) (defBody st) r) :
    FnG P w K mg base (k + 1) f fd ps (spD w K mg ps.length (mDefK N.length r)) := by
  refine fn_G Fu Sc (fun vs H Q E h => h.1) fun cdv A outer s H vs Q E hr hG h => ?_
  obtain ⟨hl, α, F, S, ds, h1, h2, h3⟩ := h
  obtain ⟨t, pt, st⟩ := (hbody cdv A outer s H E hr hG).ex
  refine ⟨t, pt, st α F _ H _ S _ h1 (slots_start h2) ?_⟩
  have h3 : wp w K mg α F H (relD w K mg) (mDefK N.length r ds S) Q E := h3
  unfold mDefK at h3
  cases q : r (ds.map some ++ List.replicate (N.length - ds.length) none) S with
  | nx δ S1 =>
    rw [q] at h3
    intro σ' H' β F' r1 s1 _
    exact h3 .non H' β F' r1 s1 .non
  | rt d S1 =>
    rw [q] at h3
    exact h3
  | err c fs δ S1 =>
    rw [q] at h3
    intro cls dd σ' H' β F' r1 s1 _ he
    exact h3 cls dd H' β F' r1 s1 he
  | bk δ S1 => rw [q] at h3; exact h3.elim
  | ct δ S1 => rw [q] at h3; exact h3.elim
  | stuck => rw [q] at h3; exact h3.elim
theorem fn_mkK {P : Program} {w : World} {K : Fg} {mg : Str → Option Value} {base : Heap} {x : Str} {st : Stmt} {N ps : List Str} {k : Nat} {r : RS} (Fu : Fd K mg x st ps) (Sc : FnScope N ps (defScope st))
    (hbody : ∀ (f : Addr) (cdv : Value) (A : Around) (outer : List Env) (s : Shared) (H : Hp) (E : XK), Env1 (cxOf (L2.CX P w) P w K mg base N x (defScope st) f cdv A outer s H E) k → Takes (cxOf (L2.CX P w) P w K mg base N x (defScope st) f cdv A outer s H E) (fun cls d _ H => E cls d H) →
      PSds (cxOf (L2.CX P w) P w K mg base N x (defScope st) f cdv A outer s H E) (fun cls d _ H => E cls d H) (defBody st) r) : Fn P w K mg base x ps.length (k + 1) (mDefK N.length r) := by
  obtain ⟨f, fd, h1, h2, h3⟩ := Fu.ex
  exact ⟨f, fd, ps, h2, h1.kp, h3, fn_okK h1 Sc fun cdv A outer s H E hr hG => hbody f cdv A outer s H E ⟨hr, hG, passes_of rfl⟩ (takes_of rfl rfl rfl rfl)⟩
section
variable {X : Cx} {pos : Pos} {k : Nat} {es : List Expr}
theorem plc_noT {vs : List Nat} {scope : Scope} {elt : Expr} {t : TGs} {u : List D → Sl → Sto → Res Sl} {re : RE} (hc : X.calm = true) (hg : ∀ (s : Shared) (H : Hp) (C : Addr) (cl : List (Str × Addr)) (fp : List Addr), PGxs (X.blk s H scope (compEnvC scope cl C X.env) fp) vs es t u)
    (he : ∀ (s : Shared) (H : Hp) (C : Addr) (cl : List (Str × Addr)) (fp : List Addr), PD (X.blk s H scope (compEnvC scope cl C X.env) fp) W0 elt re)
    (hn : ∀ (s : Shared) (H : Hp) (C : Addr) (cl : List (Str × Addr)) (fp : List Addr), (assignEach es (X.blk s H scope (compEnvC scope cl C X.env) fp).env).length = es.length := by intros; rfl)
    (hst : ∀ (s : Shared) (H : Hp) (C : Addr) (cl : List (Str × Addr)) (fp : List Addr), (assignEach es (X.blk s H scope (compEnvC scope cl C X.env) fp).env).findIdx? (·.1) = none := by intros; rfl) :
    PLc X vs scope (.Tuple es k pos) elt [] (L2.gTup X.K es.length t) tYes (gTup u) bYes re :=
  plc_no (fun s H C cl fp => pgx_tup (X := X.blk s H scope (compEnvC scope cl C X.env) fp) hc (hg s H C cl fp) (hn s H C cl fp) (hst s H C cl fp)) he
theorem plc_ifT {vs : List Nat} {scope : Scope} {elt c : Expr} {t : TGs} {u : List D → Sl → Sto → Res Sl} {bc : RB} {re : RE} (hca : X.calm = true) (hg : ∀ (s : Shared) (H : Hp) (C : Addr) (cl : List (Str × Addr)) (fp : List Addr), PGxs (X.blk s H scope (compEnvC scope cl C X.env) fp) vs es t u)
    (hc : ∀ (s : Shared) (H : Hp) (C : Addr) (cl : List (Str × Addr)) (fp : List Addr), PB (X.blk s H scope (compEnvC scope cl C X.env) fp) W0 c bc) (he : ∀ (s : Shared) (H : Hp) (C : Addr) (cl : List (Str × Addr)) (fp : List Addr), PD (X.blk s H scope (compEnvC scope cl C X.env) fp) W0 elt re)
    (hn : ∀ (s : Shared) (H : Hp) (C : Addr) (cl : List (Str × Addr)) (fp : List Addr), (assignEach es (X.blk s H scope (compEnvC scope cl C X.env) fp).env).length = es.length := by intros; rfl)
    (hst : ∀ (s : Shared) (H : Hp) (C : Addr) (cl : List (Str × Addr)) (fp : List Addr), (assignEach es (X.blk s H scope (compEnvC scope cl C X.env) fp).env).findIdx? (·.1) = none := by intros; rfl) :
    PLc X vs scope (.Tuple es k pos) elt [c] (L2.gTup X.K es.length t) (tCanB X.w X.K X.mg W0 bc) (gTup u) bc re :=
  plc_if (fun s H C cl fp => pgx_tup (X := X.blk s H scope (compEnvC scope cl C X.env) fp) hca (hg s H C cl fp) (hn s H C cl fp) (hst s H C cl fp)) hc he
end
/-! ### tests by cases, calls of nothing -/
def bIf (c a b : RB) : RB := fun δ S => (c δ S).bind fun k S1 => if k then a δ S1 else b δ S1
section
variable {X : Cx} {W : WX} {a b c : Expr} {ba bb bc : RB} {pos p : Pos}
theorem pt_ifx {tc ta tb : TT} (hc : PT X c tc) (ha : PT X a ta) (hb : PT X b tb) : PT X (.IfExp c a b pos) (fun σ H Q => tc σ H fun k H1 => if k = true then ta σ H1 Q else tb σ H1 Q) := by
  refine ⟨fun pins s σ H Q I h => ?_⟩
  unfold PySem.isTrue
  refine wpAny_bind (thn (hc.run pins s σ H _ I h) fun k s1 ⟨H1, I1, q1⟩ => ?_)
  cases k with
  | true => exact ha.run pins s1 σ H1 Q I1 q1
  | false => exact hb.run pins s1 σ H1 Q I1 q1
theorem pb_ifx (hc : PB X W c bc) (ha : PB X W a ba) (hb : PB X W b bb) : PB X W (.IfExp c a b pos) (bIf bc ba bb) := by
  obtain ⟨tc, pc, sc⟩ := hc.ex
  obtain ⟨ta, pa, sa⟩ := ha.ex
  obtain ⟨tb, pb, sb⟩ := hb.ex
  refine ⟨_, pt_ifx pc pa pb, fun α F σ H δ S Q hr hs h => ?_⟩
  refine sc α F σ H δ S _ hr hs (wp.bind h fun d S1 _ x H1 β F1 r1 q1 v1 h1 => ?_)
  have e : x = d := v1
  subst e
  cases x with
  | true => exact sa (α ++ β) F1 σ H1 δ S1 Q r1 (hs.mono q1.sub) h1
  | false => exact sb (α ++ β) F1 σ H1 δ S1 Q r1 (hs.mono q1.sub) h1
theorem pd_fn0 {x : Str} {m : Mir} {k : Nat} (F : Fn X.prog X.w X.K X.mg X.base x 0 k m) (hr : Room k X.A) (hG : X.A.guards = some []) (tk : Takes X W) (hg : Gl X x := by rfl) (hdb : (x == ("__debug__" : Str)) = false := by decide) : PD X W (.Call (.Name x p) [] [] pos) (rCall m rNil) := by
  obtain ⟨f, fd, ps, h1, h2, h3, h4⟩ := F.ex
  refine ⟨tCallS (spD X.w X.K X.mg 0 m) (WE W) tNil, ⟨fun pins s σ H Q I h => wpAny_Call_Name_kw (ld_glob I hg h1 ?_ hdb)⟩, fun α F σ H δ S Q hr hs h => ?_⟩
  · exact PySem.W.callWith_K0 I.kIn h2 (h4.call hr hG h3 tk I .nil h)
  · exact ⟨rfl, α, F, S, [], hr, .nil, h⟩
end
end DL

set_option Elab.async false
set_option linter.all false
set_option maxRecDepth 100000
set_option maxHeartbeats 4000000
set_option autoImplicit false
/-! Data layer: repr of data with numbers of up to 4300 figures. -/
namespace DL
open PySem PySem.Spec PyProof.Rows L2

mutual
def showW : PyData → Bool
  | .none => true
  | .bool _ => true
  | .str _ => true
  | .int i => decide (i.natAbs < 10 ^ 4300)
  | .list xs => showWs xs
  | .tuple xs => showWs xs
  | .dict _ => false
def showWs : List PyData → Bool
  | [] => true
  | x :: r => showW x && showWs r
end
section
variable {prog : Program} {w : World} {h₀ : Heap}
theorem call_int_reprW {A : Around} {E : Value → Shared → Prop} {s : Shared} {a : Int} {t : Tok} {Q : Value → Shared → Prop} (hn : s.heap.NoDigits) (ha : a.natAbs < 10 ^ 4300) (h : Q (.str (toString a) s.toks) { s with toks := s.toks + 1 }) : wpAny (model prog w) A (call (.builtin "int.__repr__") [.int a t]) Q E s := by
  refine wpAny_call_entry PySem.F.slot_int_repr (typeIs_int s a t) PySem.F.entry_int_repr ?_ (PySem.F.args_int_repr_1 _)
  unfold Builtin.«int.__repr__»
  show wpAny _ _ (do let r ← Builtin.overDigitLimit? a; _) _ _ s
  refine wpAny_bind (overDigitLimit_any hn (fun hlt => ?_) (fun hge => absurd ha (Nat.not_lt.mpr hge)))
  exact wpAny_bind (wpAny_mkStr (wpAny_pure ⟨_, rfl, h⟩) (int_text_fits10 hlt))
theorem reprK_int {as : List Addr} {d : Nat} {a : Int} {t : Tok} (hn : h₀.NoDigits) (ha : a.natAbs < 10 ^ 4300) : ReprK prog w as h₀ d (.int a t) (toString a) := by
  intro base hb A g E s Q hg hcl hu hk0 hQ
  rw [pyReprUnder_leaf (v := .int a t) (by omega) (fun _ e => nomatch e)]
  unfold pyRepr
  refine wpAny_bind (wpAny_pyReprObj_slot (by omega) (typeIs_int s a t) PySem.F.slot_int_repr.toG (call_int_reprW (hn.keeps hk0) ha ⟨_, _, rfl, wpAny_pure (hQ s.heap _ fun _ _ e => e)⟩))
mutual
theorem reprK_reads (hn : h₀.NoDigits) : ∀ {v : Value} {d : PyData} {as : List Addr}, Reads h₀ v d as → showW d = true → d.shown.length ≤ sizeLine → ∃ bs, ReadAtMost h₀ d.depth bs ∧ ReprK prog w bs h₀ d.depth v d.shown
  | _, _, _, .none, _, _ => ⟨[], (fun _ h => nomatch h), by simp only [PyData.shown]; exact .of_is ReprIs.none _ _ _⟩
  | _, _, _, .bool b, _, _ => ⟨[], (fun _ h => nomatch h), by simp only [PyData.shown]; exact .of_is (ReprIs.bool b) _ _ _⟩
  | _, _, _, .int i t, hs, _ => ⟨[], (fun _ h => nomatch h), by simp only [PyData.shown]; exact reprK_int hn (of_decide_eq_true (by unfold showW at hs; exact hs))⟩
  | _, _, _, .str x t, _, hz => ⟨[], (fun _ h => nomatch h), by simp only [PyData.shown]; exact .of_is (ReprIs.str x t (by simpa only [PyData.shown] using hz)) _ _ _⟩
  | _, _, _, .list (a := a) (vs := vs) (xs := xs) h1 h2 h3 h4, hs, hz => by
    have hz' : (listText (PyData.shownAll xs)).length ≤ sizeLine := by simpa only [PyData.shown] using hz
    unfold showW at hs
    obtain ⟨bs, hb, hk⟩ := reprAllK_reads hn h4 hs (fun t ht => Nat.le_trans (listText_mem_le ht) hz')
    have r : Reads h₀ (.ref a) (.list xs) _ := .list h1 h2 h3 h4
    have hna : a ∉ bs := not_mem_of_deeper r (by simp only [PyData.depth]; omega) hb
    refine ⟨a :: bs, ReadAtMost.cons r (by simp only [PyData.depth]; omega) hb, ?_⟩
    simp only [PyData.depth, PyData.shown]
    obtain ⟨l⟩ := vs
    cases l with
    | nil =>
      have h4' : ReadsAll h₀ [] xs _ := h4
      cases h4'
      simp only [PyData.shownAll, listText_nil]
      exact ReprK.listEmpty h1 h2 h3
    | cons x l => exact ReprK.list h1 h2 h3 hna (by simpa using hk.length_eq) (fun i y e => hk.item i y (by simpa using e))
  | _, _, _, .tuple (a := a) (xs := xs) h1 h2 h3 h4, hs, hz => by
    have hz' : (tupleText (PyData.shownAll xs)).length ≤ sizeLine := by simpa only [PyData.shown] using hz
    unfold showW at hs
    obtain ⟨bs, hb, hk⟩ := reprAllK_reads hn h4 hs (fun t ht => Nat.le_trans (tupleText_mem_le ht) hz')
    have r : Reads h₀ (.ref a) (.tuple xs) _ := .tuple h1 h2 h3 h4
    have hna : a ∉ bs := not_mem_of_deeper r (by simp only [PyData.depth]; omega) hb
    refine ⟨a :: bs, ReadAtMost.cons r (by simp only [PyData.depth]; omega) hb, ?_⟩
    simp only [PyData.depth, PyData.shown]
    exact ReprK.tuple h1 h2 h3 hna hk
  | _, _, _, .dict _ _ _ _ _, hs, _ => by unfold showW at hs; cases hs
theorem reprAllK_reads (hn : h₀.NoDigits) : ∀ {vs : List Value} {ds : List PyData} {as : List Addr}, ReadsAll h₀ vs ds as → showWs ds = true → (∀ t ∈ PyData.shownAll ds, t.length ≤ sizeLine) →
    ∃ bs, ReadAtMost h₀ (PyData.depthAll ds) bs ∧ ReprAllK prog w bs h₀ (PyData.depthAll ds) vs (PyData.shownAll ds)
  | _, _, _, .nil, _, _ => ⟨[], (fun _ h => nomatch h), by simp only [PyData.shownAll]; exact .nil⟩
  | _, _, _, .cons (d := d) (ds := ds) r rs, hs, hz => by
    unfold showWs at hs
    rw [Bool.and_eq_true] at hs
    obtain ⟨b1, hb1, k1⟩ := reprK_reads hn r hs.1 (hz _ (by simp only [PyData.shownAll]; exact List.mem_cons_self ..))
    obtain ⟨b2, hb2, k2⟩ := reprAllK_reads hn rs hs.2 (fun t ht => hz t (by simp only [PyData.shownAll]; exact List.mem_cons_of_mem _ ht))
    refine ⟨b1 ++ b2, ?_, ?_⟩
    · intro b hm
      simp only [PyData.depthAll]
      rcases List.mem_append.mp hm with hm | hm
      · obtain ⟨d', as', r', hd'⟩ := hb1 b hm
        exact ⟨d', as', r', Nat.le_trans hd' (Nat.le_max_left _ _)⟩
      · obtain ⟨d', as', r', hd'⟩ := hb2 b hm
        exact ⟨d', as', r', Nat.le_trans hd' (Nat.le_max_right _ _)⟩
    · simp only [PyData.depthAll, PyData.shownAll]
      exact .cons ((k1.more fun b hb => List.mem_append_left _ hb).level_le (Nat.le_max_left _ _)) (k2.more_le (fun b hb => List.mem_append_right _ hb) (Nat.le_max_right _ _))
end
theorem repr_of_readsW {a : Addr} {d : PyData} {as : List Addr} {A : Around} {E : Value → Shared → Prop} {s : Shared} {Q : Value → Shared → Prop} (hn : h₀.NoDigits) (r : Reads h₀ (.ref a) d as) (hs : showW d = true) (hg : A.guards = some []) (hu : A.units + (d.depth + 1) < cLine) (hk0 : ∀ b o, h₀.get? b = some o → s.heap.get? b = some o)
    (hQ : ∀ h' u tk, (∀ b o, s.heap.get? b = some o → h'.get? b = some o) → Q (.str d.shown u) { s with heap := h', toks := tk })
    (hsz : d.shown.length ≤ sizeLine) : wpAny (model prog w) A (call (.builtin "repr") [.ref a]) Q E s := by
  cases r with
  | list h1 h2 h3 h4 =>
    rename_i o vs n xs bs₀
    have hz' : (listText (PyData.shownAll xs)).length ≤ sizeLine := by simpa only [PyData.shown] using hsz
    unfold showW at hs
    obtain ⟨bs, hb, hk⟩ := reprAllK_reads (prog := prog) (w := w) hn h4 hs (fun t ht => Nat.le_trans (listText_mem_le ht) hz')
    have hna : a ∉ bs := not_mem_of_deeper (.list h1 h2 h3 h4) (by simp only [PyData.depth]; omega) hb
    refine call_repr_slot (by omega) ⟨o, hk0 _ _ h1, h2⟩ PySem.F.slot_list_repr.toG ?_
    simp only [PyData.depth] at hu
    simp only [PyData.shown] at hQ
    obtain ⟨l⟩ := vs
    cases l with
    | nil =>
      have h4' : ReadsAll h₀ [] xs _ := h4
      cases h4'
      simp only [PyData.shownAll, listText_nil] at hQ
      exact call_list_repr_empty ⟨o, hk0 _ _ h1, h2⟩ (hk0 _ _ h1) h3 ⟨_, _, rfl, hQ s.heap _ _ fun _ _ e => e⟩
    | cons x l =>
      exact call_list_reprK h1 h2 h3 hna (by simpa using hk.length_eq) (fun i y e => hk.item i y (by simpa using e)) (show A.in1.guards = some [] from hg) (fun b _ => Clear.nil b) (by show A.units + 1 + _ < cLine; omega) hk0 (fun h' u tk hk => ⟨_, _, rfl, hQ h' u tk hk⟩) hz'
  | tuple h1 h2 h3 h4 =>
    rename_i o vs n xs
    have hz' : (tupleText (PyData.shownAll xs)).length ≤ sizeLine := by simpa only [PyData.shown] using hsz
    unfold showW at hs
    obtain ⟨bs, hb, hk⟩ := reprAllK_reads (prog := prog) (w := w) hn h4 hs (fun t ht => Nat.le_trans (tupleText_mem_le ht) hz')
    have hna : a ∉ bs := not_mem_of_deeper (.tuple h1 h2 h3 h4) (by simp only [PyData.depth]; omega) hb
    refine call_repr_slot (by omega) ⟨o, hk0 _ _ h1, h2⟩ PySem.F.slot_tuple_repr ?_
    simp only [PyData.depth] at hu
    simp only [PyData.shown] at hQ
    exact call_tuple_reprK h1 h2 h3 hna hk (show A.in1.guards = some [] from hg) (fun b _ => Clear.nil b) (by show A.units + 1 + _ < cLine; omega) hk0 (fun h' u tk hk => ⟨_, _, rfl, hQ h' u tk hk⟩) hz'
  | dict _ _ _ _ _ => unfold showW at hs; cases hs
end
def NoDig (K : Fg) : Prop := PySem.W.nsIn K cStatics "sys.int_max_str_digits" = some none
section
variable {X : Cx} {pins : List (Addr × Obj)} {σ : L2.St} {H : Hp} {s : Shared}
theorem nodig (I : Inv X pins σ H s) (hd : NoDig X.K) : s.heap.NoDigits := by
  obtain ⟨mc, hns, _⟩ := I.nolimit
  refine ⟨mc, hns, ?_⟩
  obtain ⟨o, es, ep, ho, hda, _, hf⟩ := hns
  have e : PySem.W.nsIn X.K cStatics "sys.int_max_str_digits" = some none := hd
  unfold PySem.W.nsIn at e
  split at e
  · rename_i c d es' n' sl q
    have := I.kIn _ _ q
    rw [ho] at this
    cases this
    cases hda
    split at e
    · cases e
    · rename_i he
      rw [← hf]
      unfold nsFind findBy
      rw [← Array.find?_toList, he]
      rfl
  · cases e
theorem repr_okW (hG : X.A.guards = some []) (hu : X.A.units + 80 < cLine) (hd : NoDig X.K) : CallR X (.builtin "repr") (fun xs H Q => ∃ x d, xs = [x] ∧ Dp X.K H x d ∧ showW d = true ∧ d.depth ≤ 64 ∧ d.shown.length ≤ sizeLine ∧ Q (.str d.shown) H) := by
  intro pins s σ H xs us Q I rv h
  obtain ⟨x, d, rfl, hdp, h1, h2, h3, q⟩ := h
  obtain ⟨u, rfl, rx⟩ := vals1 rv
  have done : ∀ h' t tk, (∀ b o, s.heap.get? b = some o → h'.get? b = some o) → EP X pins σ Q (.str d.shown t) { s with heap := h', toks := tk } := fun h' t tk k => ⟨.str _, H, I.kept (t' := tk) k, ⟨_, rfl⟩, q⟩
  obtain ⟨as, r⟩ := Dp.reads I d x u hdp rx
  cases hdp with
  | non => cases rx; exact P.repr_of_none (done s.heap _ _ fun _ _ e => e)
  | bl b => cases rx; exact P.repr_of_bool (done s.heap _ _ fun _ _ e => e)
  | int i =>
    obtain ⟨t, rfl⟩ := rx
    exact call_repr_slot (by omega) (typeIs_int s i t) PySem.F.slot_int_repr.toG (call_int_reprW (nodig I hd) (of_decide_eq_true (by unfold showW at h1; exact h1)) ⟨_, _, rfl, by simpa only [PyData.shown] using done s.heap s.toks (s.toks + 1) fun _ _ e => e⟩)
  | str z => obtain ⟨t, rfl⟩ := rx; exact P.repr_of_str (by simpa [PyData.shown] using done s.heap s.toks (s.toks + 1) fun _ _ e => e) (by simpa [PyData.shown] using h3)
  | lst _ _ => cases rx; exact repr_of_readsW (nodig I hd) r h1 hG (by omega) (fun _ _ e => e) (fun h' u tk k => done h' u tk k) h3
  | tup _ _ => cases rx; exact repr_of_readsW (nodig I hd) r h1 hG (by omega) (fun _ _ e => e) (fun h' u tk k => done h' u tk k) h3
def gReprW : Sto → List D → Option D := fun S ds => match ds with
  | [d] => (match toPy S (deref S d) with
    | some x => if showW x && decide (x.depth ≤ 64) && decide (x.shown.length ≤ sizeLine) then some (.str x.shown) else none
    | none => gRepr S [d])
  | _ => none
theorem b_reprW (hG : X.A.guards = some []) (hu : X.A.units + 80 < cLine) (hd : NoDig X.K) : BiG X (.builtin "repr") gReprW := by
  obtain ⟨r, h1, h2⟩ := (b_repr hG hu).ex
  refine ⟨_, (repr_okW hG hu hd).or h1, fun α F H S xs ds z Q hr hv hz q => ?_⟩
  unfold gReprW at hz
  split at hz
  · rename_i d
    split at hz
    · rename_i x e
      split at hz
      · rename_i hc
        rw [Bool.and_eq_true, Bool.and_eq_true] at hc
        cases hz
        cases hv with
        | cons g1 g2 =>
          cases g2
          exact .inl ⟨_, x, rfl, hr.dp g1 e, hc.1.1, of_decide_eq_true hc.1.2, of_decide_eq_true hc.2, fin_now hr (.str _) q⟩
      · cases hz
    · exact .inr (h2 α F H S xs [d] z Q hr hv hz q)
  · cases hz
end
end DL

set_option Elab.async false
set_option linter.all false
set_option maxRecDepth 100000
set_option maxHeartbeats 4000000
set_option autoImplicit false
/-! The head's hook, with what the interpreter's own table lacks. -/
namespace DL
open PySem PySem.Spec PyProof.Rows L2
def digB (K : Fg) : Bool := decide (PySem.W.nsIn K cStatics "sys.int_max_str_digits" = some none)
def obsS (fa : List He.Fa) (fn : List He.DefD) (K : Fg) : He.AlD := (digB K && (He.obsD fa fn K).1, (He.obsD fa fn K).2)
def SaysS (fa : List He.Fa) (fn : List He.DefD) (K : Fg) : Prop := obsS fa fn K = He.valD fn
def obsSG (n : Nat) (fa : List He.Fa) (fn : List He.DefD) (g : Addr → Option Obj) : He.AlD := obsS fa fn (He.frG g (He.asD g n ++ [cStatics]))
def hookS (n : Nat) (fa : List He.Fa) (fn : List He.DefD) : PySem.W.Hook where
  α := He.AlD
  obs := fun s => obsSG n fa fn s.heap.get?
  val := fun _ => He.valD fn
  says := fun _ h => ∃ K : Fg, K.In h ∧ SaysS fa fn K
  of := fun _ _ e => ⟨_, He.frG_in, e⟩
  keeps := fun _ _ _ ⟨K, hK, c⟩ k => ⟨K, PySem.W.Frag.In.keeps hK k, c⟩
theorem obsSG_eq {n : Nat} {fa : List He.Fa} {fn : List He.DefD} {g : Addr → Option Obj} {s : Shared} (h : ∀ a, g a = s.heap.get? a) : obsSG n fa fn g = (hookS n fa fn).obs s := by
  have e : g = s.heap.get? := funext h
  rw [e] <;> rfl
theorem SaysS.both {fa : List He.Fa} {fn : List He.DefD} {K : Fg} (h : SaysS fa fn K) : He.SaysD fa fn K ∧ NoDig K := by
  have h0 : obsS fa fn K = He.valD fn := h
  have h1 : (digB K && (He.obsD fa fn K).1) = true := congrArg (fun z : He.AlD => z.1) h0
  have h2 : (obsS fa fn K).2 = (He.valD fn).2 := congrArg (fun z : He.AlD => z.2) h0
  rw [Bool.and_eq_true] at h1
  refine ⟨?_, ?_⟩
  · show He.obsD fa fn K = He.valD fn
    exact Prod.ext h1.2 h2
  · have h3 := h1.1
    unfold digB at h3
    unfold NoDig
    exact of_decide_eq_true h3
end DL

set_option Elab.async false
set_option linter.all false
set_option maxRecDepth 100000
set_option maxHeartbeats 4000000
set_option autoImplicit false
/-! Plain part: the wider operations. -/
namespace DL
open PySem L2
section
variable {S : Sto} {i j : Int} {x y : Str} {Q : D → Sto → Prop} {QL : List D → Sto → Prop} {QB : Bool → Sto → Prop} {δ : Sl} {N B C : Sl → Sto → Prop} {T : D → Sto → Prop}
theorem o_ltU (h : Q (.bl (decide (i < j))) S) : (Res.lift (gLtU S (.int i) (.int j)) S).post Q := h
theorem o_leU (h : Q (.bl (decide (i ≤ j))) S) : (Res.lift (gLeU S (.int i) (.int j)) S).post Q := h
theorem o_gtU (h : Q (.bl (decide (j < i))) S) : (Res.lift (gGtU S (.int i) (.int j)) S).post Q := h
theorem o_geU (h : Q (.bl (decide (j ≤ i))) S) : (Res.lift (gGeU S (.int i) (.int j)) S).post Q := h
/-- texts, by their signs -/
def ltS (x y : Str) : Bool := decide (x.cps.toList < y.cps.toList)
theorem two_str : twoD S (.str x) (.str y) = some (.str x, .str y) := by
  unfold twoD deref toPy
  dsimp only
  rw [if_pos (by simp [PySem.W.alike, notNone, PyData.depth])]
theorem o_ltS (h : Q (.bl (ltS x y)) S) : (Res.lift (gLtU S (.str x) (.str y)) S).post Q := p_lift (by
  unfold gLtU
  dsimp only
  rw [two_str]
  show some (D.bl (PySem.W.dataLt (.str x) (.str y))) = _
  rw [PySem.W.dataLt_str]
  rfl) h
theorem o_two {d e : D} {u v : PyData} (h : twoD S d e = some (u, v)) (hd : ∀ i, d ≠ .int i) (q : Q (.bl (PySem.W.dataLt u v)) S) : (Res.lift (gLtU S d e) S).post Q := p_lift (by
  unfold gLtU
  split
  · exact absurd rfl (hd _)
  · rw [h]; rfl) q
theorem o_twoG {d e : D} {u v : PyData} (h : twoD S d e = some (u, v)) (hd : ∀ i, d ≠ .int i) (q : Q (.bl (!PySem.W.dataLt u v)) S) : (Res.lift (gGeU S d e) S).post Q := p_lift (by
  unfold gGeU
  split
  · exact absurd rfl (hd _)
  · rw [h]; rfl) q
theorem p_zipA {a : RA} (h : (a δ S).post fun xs S1 => (∃ ds es, xs = [.lst ds, .lst es] ∧ QL (zipD ds es) S1) ∨ ∃ ds es, xs = [.tup ds, .tup es] ∧ QL (zipD ds es) S1) : (rZipA a δ S).post QL :=
  p_bind (h.mono fun xs S1 q => by rcases q with ⟨ds, es, e, q⟩ | ⟨ds, es, e, q⟩ <;> subst e <;> exact q)
theorem p_cutT {a : RE} {l h : RO} (q : (a δ S).post fun x S1 => (l δ S1).post fun i S2 => (h δ S2).post fun j S3 => ∃ z, x = .tup z ∧ Q (.tup (cutD z i j)) S3) : (rCut a l h δ S).post Q :=
  p_bind (q.mono fun x S1 q => p_bind (q.mono fun i S2 q => p_bind (q.mono fun j S3 ⟨z, e, q'⟩ => by
    subst e
    exact q')))
theorem p_bif {c a b : RB} (h : (c δ S).post fun k S1 => (k = true → (a δ S1).post QB) ∧ (k = false → (b δ S1).post QB)) : (bIf c a b δ S).post QB := p_bind (h.mono fun k _ q => by
  cases k with
  | true => exact q.1 rfl
  | false => exact q.2 rfl)
theorem p_callV {k : Nat} {ms : List (Str × Mir)} {a : RA} {z : Str} {m : Mir} (e : δ[k]? = some (some (.fn z))) (hm : ms.lookup z = some m) (h : (a δ S).post fun xs S1 => (m xs S1).post Q) : (rCallV k ms a δ S).post Q := by
  unfold rCallV
  rw [e]
  dsimp only
  rw [hm]
  exact p_bind h
theorem o_lenT {xs : List D} (q : Q (.int xs.length) S) : (Res.lift (gLen S [.tup xs]) S).post Q := q
theorem o_lenL {xs : List D} (q : Q (.int xs.length) S) : (Res.lift (gLen S [.lst xs]) S).post Q := q
theorem s_gtux {u : List D → Sl → Sto → Res Sl} {ds : List D} {QS : Sl → Sto → Prop} (h : (u ds δ S).post QS) : (gTup u (.tux ds) δ S).post QS := h
theorem atI_0 {a : D} {r : List D} : atI (a :: r) 0 = some a := by unfold atI ixN; simp
theorem atI_1 {a b : D} {r : List D} : atI (a :: b :: r) 1 = some b := by
  unfold atI ixN
  simp
  rw [if_pos (by omega)]
  rfl
theorem atI_2 {a b c : D} {r : List D} : atI (a :: b :: c :: r) 2 = some c := by
  unfold atI ixN
  simp
  rw [if_pos (by omega)]
  rfl
theorem cut1 {A : Type} (xs : List A) : cutD xs (some 1) none = xs.drop 1 := by
  unfold cutD
  rw [show HT.sIx xs.length 0 (some 1) = min 1 xs.length from HT.sIx_nat _ _ 1, HT.sIx_none]
  rcases xs with _ | ⟨a, r⟩
  · rfl
  · simp
theorem asInts_map : ∀ ns : List Int, asInts (ns.map .int) = some ns
  | [] => rfl
  | b :: r => by unfold List.map asInts; rw [asInts_map r]; rfl
theorem o_sumI {ns : List Int} (h : Q (.int ns.sum) S) : (Res.lift (gSum S [.lst (ns.map .int)]) S).post Q := p_lift (by unfold gSum deref; dsimp only; rw [asInts_map]; rfl) h
end
/-- a comprehension that leaves the store: what each turn gives -/
theorem lcL_gen {g : RG} {t : RB} {e : RE} {f : D → Option D} {δ : Sl} {S : Sto} : ∀ {xs : List D}, (∀ x ∈ xs, ∃ δ1, g x δ S = .ok δ1 S ∧ ((f x = none ∧ t δ1 S = .ok false S) ∨ ∃ y, f x = some y ∧ t δ1 S = .ok true S ∧ e δ1 S = .ok y S)) → lcL g t e xs δ S = .ok (xs.filterMap f) S
  | [], _ => rfl
  | x :: xs, h => by
    have ih := lcL_gen (g := g) (t := t) (e := e) (f := f) (δ := δ) (S := S) (xs := xs) fun y hy => h y (List.mem_cons_of_mem _ hy)
    obtain ⟨δ1, h1, h2⟩ := h x List.mem_cons_self
    unfold lcL
    rw [h1]
    show (t δ1 S).bind _ = _
    rw [List.filterMap_cons]
    rcases h2 with ⟨e1, e2⟩ | ⟨y, e1, e2, e3⟩
    · rw [e2, e1]
      exact ih
    · rw [e2, e1]
      show (e δ1 S).bind _ = _
      rw [e3]
      show (lcL g t e xs δ S).bind _ = _
      rw [ih]
      rfl
end DL

set_option Elab.async false
set_option linter.all false
set_option maxRecDepth 100000
set_option maxHeartbeats 4000000
set_option autoImplicit false
/-! Plain part: how long a repr is, and of which signs. -/
namespace DL
open PySem L2
def OkS (x : Str) : Prop := ∀ c ∈ x.cps.toList, c < 0x110000
theorem okS_ok {x : Str} (h : OkS x) : PyData.strOk x = true := by
  unfold PyData.strOk
  rw [Array.all_eq_true']
  intro c hc
  exact decide_eq_true (h c (by simpa using hc))
theorem ok_okS {x : Str} (h : PyData.strOk x = true) : OkS x := fun c hc => by
  unfold PyData.strOk at h
  rw [Array.all_eq_true'] at h
  exact of_decide_eq_true (h c (by simpa using hc))
theorem okS_app {x y : Str} (h : OkS x) (g : OkS y) : OkS (x ++ y) := fun c hc => by
  have e : (x ++ y).cps.toList = x.cps.toList ++ y.cps.toList := by
    show (x.cps ++ y.cps).toList = _
    simp
  rw [e] at hc
  exact (List.mem_append.mp hc).elim (h c) (g c)
theorem char_lt (c : Char) : c.toNat < 0x110000 := by
  have := c.valid
  rcases this with h | ⟨_, h⟩
  · have h' : c.toNat < 0xd800 := h
    omega
  · exact h
theorem okS_of (s : String) : OkS (Str.ofString s) := fun c hc => by
  rw [Str.ofString_eq_toList] at hc
  have hc' : c ∈ s.toList.map Char.toNat := by simpa using hc
  obtain ⟨k, _, rfl⟩ := List.mem_map.mp hc'
  exact char_lt k
theorem okS_join {sep : Str} (hs : OkS sep) : ∀ {ts : List Str}, (∀ t ∈ ts, OkS t) → OkS (Str.join sep ts)
  | [], _ => fun c hc => by cases hc
  | [x], h => h x List.mem_cons_self
  | x :: y :: r, h => okS_app (okS_app (h x List.mem_cons_self) hs) (okS_join hs (ts := y :: r) fun t ht => h t (List.mem_cons_of_mem _ ht))
theorem fold_app (f : Nat → List Nat) : ∀ (l : List Nat) (acc : Array Nat), (l.foldl (fun out c => out ++ (f c).toArray) acc).toList = acc.toList ++ l.flatMap f
  | [], acc => by simp
  | c :: r, acc => by
    rw [List.foldl_cons, fold_app f r]
    simp
theorem reprChar_lt {q c : Nat} (hc : c < 0x110000) : ∀ z ∈ Builtin.Str.reprChar q c, z < 0x110000 := by
  intro z hz
  unfold Builtin.Str.reprChar at hz
  dsimp only at hz
  have dg : ∀ n : Nat, z ∈ List.replicate n 48 ++ (Nat.toDigits 16 c).map Char.toNat → z < 0x110000 := fun n h => by
    rcases List.mem_append.mp h with h | h
    · rw [(List.mem_replicate.mp h).2]; decide
    · obtain ⟨k, _, rfl⟩ := List.mem_map.mp h
      exact char_lt k
  have two : ∀ a b : Nat, a < 0x110000 → b < 0x110000 → z ∈ [a, b] → z < 0x110000 := fun a b ha hb h => by
    rcases List.mem_cons.mp h with rfl | h
    · exact ha
    · rw [List.mem_singleton.mp h]; exact hb
  split at hz
  · exact two _ _ (by decide) hc hz
  · split at hz
    · exact two _ _ (by decide) (by decide) hz
    · split at hz
      · exact two _ _ (by decide) (by decide) hz
      · split at hz
        · exact two _ _ (by decide) (by decide) hz
        · split at hz
          · rw [List.mem_singleton.mp hz]; exact hc
          · split at hz
            · rcases List.mem_append.mp hz with h | h
              · exact two _ _ (by decide) (by decide) h
              · exact dg _ h
            · split at hz
              · rcases List.mem_append.mp hz with h | h
                · exact two _ _ (by decide) (by decide) h
                · exact dg _ h
              · rcases List.mem_append.mp hz with h | h
                · exact two _ _ (by decide) (by decide) h
                · exact dg _ h
theorem okS_repr {x : Str} (h : OkS x) : OkS (reprText x) := by
  intro c hc
  have q : reprQuote x < 0x110000 := by
    unfold reprQuote
    split <;> decide
  unfold reprText at hc
  have hc' : c ∈ (x.cps.foldl (fun out c => out ++ (Builtin.Str.reprChar (reprQuote x) c).toArray) #[reprQuote x]).toList ++ [reprQuote x] := by simpa using hc
  rw [← Array.foldl_toList, fold_app] at hc'
  rcases List.mem_append.mp hc' with h1 | h1
  · rcases List.mem_append.mp h1 with h2 | h2
    · have : c = reprQuote x := by simpa using h2
      rw [this]; exact q
    · obtain ⟨z, hz, hz2⟩ := List.mem_flatMap.mp h2
      exact reprChar_lt (h z hz) c hz2
  · rw [List.mem_singleton.mp h1]; exact q
/-! ### data of bounded size -/
mutual
def fitP : PyData → Bool
  | .none => true
  | .bool _ => true
  | .int i => decide (i.natAbs < 10 ^ 1005)
  | .str x => PyData.strOk x
  | .list xs => fitPs xs
  | .tuple xs => fitPs xs
  | .dict _ => false
def fitPs : List PyData → Bool
  | [] => true
  | x :: r => fitP x && fitPs r
end
mutual
def wtP : PyData → Nat
  | .none => 4
  | .bool _ => 5
  | .int _ => 1006
  | .str x => 10 * x.length + 2
  | .list xs => 3 + wtPs xs
  | .tuple xs => 3 + wtPs xs
  | .dict _ => 0
def wtPs : List PyData → Nat
  | [] => 0
  | x :: r => wtP x + 2 + wtPs r
end
theorem join_len : ∀ ts : List Str, (Str.join (Str.ofString ", ") ts).length ≤ (ts.map fun t => t.length + 2).sum
  | [] => by show 0 ≤ _; exact Nat.zero_le _
  | [x] => by show x.length ≤ x.length + 2 + 0; omega
  | x :: y :: r => by
    have ih := join_len (y :: r)
    show (x ++ Str.ofString ", " ++ Str.join (Str.ofString ", ") (y :: r)).length ≤ x.length + 2 + ((y :: r).map fun t => t.length + 2).sum
    rw [strLen_append, strLen_append]
    have : (Str.ofString ", ").length = 2 := by decide +kernel
    omega
mutual
theorem shown_fit : ∀ {d : PyData}, fitP d = true → OkS d.shown ∧ d.shown.length ≤ wtP d ∧ showW d = true
  | .none, _ => by
    simp only [PyData.shown]
    exact ⟨okS_of _, by decide +kernel, by unfold showW; rfl⟩
  | .bool b, _ => by
    simp only [PyData.shown]
    refine ⟨by cases b <;> exact okS_of _, ?_, by unfold showW; rfl⟩
    cases b <;> decide +kernel
  | .int i, h => by
    unfold fitP at h
    have h := of_decide_eq_true h
    simp only [PyData.shown]
    refine ⟨okS_of _, ?_, ?_⟩
    · have := int_text_length_le10 (k := 1005) (by decide) h
      rw [ofString_length]
      unfold wtP
      omega
    · unfold showW
      exact decide_eq_true (Nat.lt_of_lt_of_le h (Nat.pow_le_pow_right (by decide) (by decide)))
  | .str x, h => by
    unfold fitP at h
    have hx := ok_okS h
    simp only [PyData.shown]
    refine ⟨okS_repr hx, ?_, by unfold showW; rfl⟩
    unfold wtP
    exact PySem.StrLaws.reprText_len x fun c hc => Nat.lt_of_lt_of_le (hx c hc) (by decide)
  | .list xs, h => by
    unfold fitP at h
    obtain ⟨h1, h2, h3⟩ := shown_fits h
    simp only [PyData.shown]
    rw [listText_eq_join]
    refine ⟨okS_app (okS_app (okS_of _) (okS_join (okS_of _) h1)) (okS_of _), ?_, by unfold showW; exact h3⟩
    rw [strLen_append, strLen_append]
    have e1 : (Str.ofString "[").length = 1 := by decide +kernel
    have e2 : (Str.ofString "]").length = 1 := by decide +kernel
    have e3 := join_len (PyData.shownAll xs)
    unfold wtP
    omega
  | .tuple xs, h => by
    unfold fitP at h
    obtain ⟨h1, h2, h3⟩ := shown_fits h
    simp only [PyData.shown]
    unfold tupleText
    refine ⟨okS_app (okS_app (okS_of _) (okS_join (okS_of _) h1)) (okS_of _), ?_, by unfold showW; exact h3⟩
    rw [strLen_append, strLen_append]
    have e1 : (Str.ofString "(").length = 1 := by decide +kernel
    have e2 : (Str.ofString (if (PyData.shownAll xs).length == 1 then ",)" else ")")).length ≤ 2 := by split <;> decide +kernel
    have e3 := join_len (PyData.shownAll xs)
    unfold wtP
    omega
  | .dict _, h => by unfold fitP at h; cases h
theorem shown_fits : ∀ {ds : List PyData}, fitPs ds = true → (∀ t ∈ PyData.shownAll ds, OkS t) ∧ ((PyData.shownAll ds).map fun t => t.length + 2).sum ≤ wtPs ds ∧ showWs ds = true
  | [], _ => by
    simp only [PyData.shownAll]
    exact ⟨(fun _ z => nomatch z), Nat.le_refl _, by unfold showWs; rfl⟩
  | d :: ds, h => by
    unfold fitPs at h
    rw [Bool.and_eq_true] at h
    obtain ⟨a1, a2, a3⟩ := shown_fit h.1
    obtain ⟨b1, b2, b3⟩ := shown_fits h.2
    simp only [PyData.shownAll]
    refine ⟨fun t ht => ?_, ?_, by unfold showWs; rw [a3, b3]; rfl⟩
    · rcases List.mem_cons.mp ht with rfl | ht
      · exact a1
      · exact b1 t ht
    · rw [List.map_cons, List.sum_cons]
      unfold wtPs
      omega
end
/-- repr of such data -/
theorem o_reprW {S : Sto} {d : D} {x : PyData} {Q : D → Sto → Prop} (e : toPy S (deref S d) = some x) (hf : fitP x = true) (hd : x.depth ≤ 64) (hw : wtP x ≤ sizeLine) (h : Q (.str x.shown) S) : (Res.lift (gReprW S [d]) S).post Q := p_lift (by
  obtain ⟨_, h2, h3⟩ := shown_fit hf
  unfold gReprW
  dsimp only
  rw [e]
  dsimp only
  rw [h3, decide_eq_true hd, decide_eq_true (Nat.le_trans h2 hw)]
  rfl) h
end DL

set_option Elab.async false
set_option linter.all false
set_option maxRecDepth 100000
set_option maxHeartbeats 4000000
set_option autoImplicit false
/-! Module's names that hold tuples. -/
namespace DL
open PySem PySem.Spec PyProof.Rows L2
mutual
def litB (K : Fg) : Nat → Value → D → Bool
  | _, .none, .non => true
  | _, .bool b, .bl c => decide (b = c)
  | _, .int i _, .int j => decide (i = j)
  | _, .str x _, .str y => decide (x = y)
  | n + 1, .ref a, .tup ds => (match K.lookup a with
    | some ⟨.type c, none, .seq us _, _⟩ => decide (c = "tuple") && (decide (us.size ≤ sizeLine) && litAll K n us.toList ds)
    | _ => false)
  | _, _, _ => false
def litAll (K : Fg) : Nat → List Value → List D → Bool
  | _, [], [] => true
  | n, u :: us, d :: ds => litB K n u d && litAll K n us ds
  | _, _, _ => false
end
section
variable {K : Fg} {w : World} {mg : Str → Option Value}
theorem litAll_of {n : Nat} (H : ∀ u d, litB K n u d = true → ∃ x, RelV x u ∧ ∀ F α, DV w K mg F α x d) : ∀ (us : List Value) (ds : List D), litAll K n us ds = true → ∃ xs, Vals xs us ∧ ∀ F α, DVs w K mg F α xs ds
  | [], [], _ => ⟨[], .nil, fun _ _ => .nil⟩
  | [], d :: ds, h => by unfold litAll at h; cases h
  | u :: us, [], h => by unfold litAll at h; cases h
  | u :: us, d :: ds, h => by
    unfold litAll at h
    rw [Bool.and_eq_true] at h
    obtain ⟨x, r1, h1⟩ := H u d h.1
    obtain ⟨xs, r2, h2⟩ := litAll_of H us ds h.2
    exact ⟨x :: xs, .cons r1 r2, fun F α => .cons (h1 F α) (h2 F α)⟩
theorem litB_ok : ∀ (n : Nat) (u : Value) (d : D), litB K n u d = true → ∃ x, RelV x u ∧ ∀ F α, DV w K mg F α x d := by
  intro n
  induction n with
  | zero =>
    intro u d h
    cases u <;> cases d <;> first
      | (unfold litB at h; exact absurd h Bool.false_ne_true)
      | exact ⟨.non, rfl, fun _ _ => .non⟩
      | (rename_i b c; unfold litB at h; have e : b = c := of_decide_eq_true h; subst e; exact ⟨.bl b, rfl, fun _ _ => .bl b⟩)
      | (rename_i i t j; unfold litB at h; have e : i = j := of_decide_eq_true h; subst e; exact ⟨.int i, ⟨t, rfl⟩, fun _ _ => .int i⟩)
      | (rename_i x t y; unfold litB at h; have e : x = y := of_decide_eq_true h; subst e; exact ⟨.str x, ⟨t, rfl⟩, fun _ _ => .str x⟩)
  | succ n ih =>
    intro u d h
    cases u <;> cases d <;> first
      | (unfold litB at h; exact absurd h Bool.false_ne_true)
      | exact ⟨.non, rfl, fun _ _ => .non⟩
      | (rename_i b c; unfold litB at h; have e : b = c := of_decide_eq_true h; subst e; exact ⟨.bl b, rfl, fun _ _ => .bl b⟩)
      | (rename_i i t j; unfold litB at h; have e : i = j := of_decide_eq_true h; subst e; exact ⟨.int i, ⟨t, rfl⟩, fun _ _ => .int i⟩)
      | (rename_i x t y; unfold litB at h; have e : x = y := of_decide_eq_true h; subst e; exact ⟨.str x, ⟨t, rfl⟩, fun _ _ => .str x⟩)
      | skip
    rename_i a ds
    unfold litB at h
    cases q : K.lookup a with
    | none => rw [q] at h; cases h
    | some o =>
      obtain ⟨oc, od, dt, osl⟩ := o
      rw [q] at h
      cases oc with
      | type c =>
        cases od with
        | none =>
          cases dt with
          | seq us m =>
            have h : (decide (c = "tuple") && (decide (us.size ≤ sizeLine) && litAll K n us.toList ds)) = true := h
            rw [Bool.and_eq_true, Bool.and_eq_true] at h
            obtain ⟨xs, r, hd⟩ := litAll_of ih us.toList ds h.2.2
            exact ⟨.ref a, rfl, fun F α => .tup ⟨.inr ⟨_, us, m, q, congrArg Value.type (of_decide_eq_true h.1), rfl, of_decide_eq_true h.2.1, r⟩, .inr ⟨_, q, rfl⟩⟩ (hd F α)⟩
          | _ => cases h
        | some _ => cases dt <;> cases h
      | _ => cases od <;> cases dt <;> cases h
/-- the module's name x holds this -/
structure Lit (w : World) (K : Fg) (mg : Str → Option Value) (x : Str) (d : D) : Prop where
  ex : ∃ u v, mg x = some u ∧ RelV v u ∧ ∀ F α, DV w K mg F α v d
def litF (K : Fg) (p : Str × D) : Bool := match PySem.W.nsIn K mainGlobals p.1 with
  | some (some u) => litB K 9 u p.2
  | _ => false
theorem litF_ok {h : Heap} {x : Str} {d : D} (X : K.In h) (G : h.Ns mainGlobals mg) (c : litF K (x, d) = true) : Lit w K mg x d := by
  have c2 : (match PySem.W.nsIn K mainGlobals x with
    | some (some u) => litB K 9 u d
    | _ => false) = true := c
  cases e : PySem.W.nsIn K mainGlobals x with
  | none => rw [e] at c2; cases c2
  | some o =>
    cases o with
    | none => rw [e] at c2; cases c2
    | some u =>
      rw [e] at c2
      obtain ⟨v, r, hv⟩ := litB_ok (w := w) (mg := mg) _ _ _ (show litB K 9 u d = true from c2)
      exact ⟨u, v, PySem.W.mg_of X G e, r, hv⟩
end
theorem pd_lit {X : Cx} {W : WX} {x : Str} {d : D} {pos : Pos} (hm : Lit X.w X.K X.mg x d) (hg : Gl X x := by rfl) (hd : (x == ("__debug__" : Str)) = false := by decide) : PD X W (.Name x pos) (rC d) := by
  obtain ⟨u, v, h1, h2, h3⟩ := hm.ex
  exact pd_c (v := v) (pe_glob hg h1 h2 hd) h3
/-! the head's hook with these -/
def obsL (fa : List He.Fa) (fn : List He.DefD) (li : List (Str × D)) (K : Fg) : He.AlD := (digB K && (li.all (litF K) && (He.obsD fa fn K).1), (He.obsD fa fn K).2)
def SaysL (fa : List He.Fa) (fn : List He.DefD) (li : List (Str × D)) (K : Fg) : Prop := obsL fa fn li K = He.valD fn
def obsLG (n : Nat) (fa : List He.Fa) (fn : List He.DefD) (li : List (Str × D)) (g : Addr → Option Obj) : He.AlD := obsL fa fn li (He.frG g (He.asD g n ++ [cStatics]))
def hookL (n : Nat) (fa : List He.Fa) (fn : List He.DefD) (li : List (Str × D)) : PySem.W.Hook where
  α := He.AlD
  obs := fun s => obsLG n fa fn li s.heap.get?
  val := fun _ => He.valD fn
  says := fun _ h => ∃ K : Fg, K.In h ∧ SaysL fa fn li K
  of := fun _ _ e => ⟨_, He.frG_in, e⟩
  keeps := fun _ _ _ ⟨K, hK, c⟩ k => ⟨K, PySem.W.Frag.In.keeps hK k, c⟩
theorem obsLG_eq {n : Nat} {fa : List He.Fa} {fn : List He.DefD} {li : List (Str × D)} {g : Addr → Option Obj} {s : Shared} (h : ∀ a, g a = s.heap.get? a) : obsLG n fa fn li g = (hookL n fa fn li).obs s := by
  have e : g = s.heap.get? := funext h
  rw [e] <;> rfl
theorem SaysL.all {fa : List He.Fa} {fn : List He.DefD} {li : List (Str × D)} {K : Fg} (h : SaysL fa fn li K) : He.SaysD fa fn K ∧ NoDig K ∧ ∀ (i : Nat) (p : Str × D), li[i]? = some p → litF K p = true := by
  have h0 : obsL fa fn li K = He.valD fn := h
  have h1 : (digB K && (li.all (litF K) && (He.obsD fa fn K).1)) = true := congrArg (fun z : He.AlD => z.1) h0
  have h2 : (obsL fa fn li K).2 = (He.valD fn).2 := congrArg (fun z : He.AlD => z.2) h0
  rw [Bool.and_eq_true, Bool.and_eq_true] at h1
  refine ⟨?_, ?_, fun i p hp => List.all_eq_true.mp h1.2.1 p (List.mem_of_getElem? hp)⟩
  · show He.obsD fa fn K = He.valD fn
    exact Prod.ext h1.2.2 h2
  · have h3 := h1.1
    unfold digB at h3
    unfold NoDig
    exact of_decide_eq_true h3
end DL

set_option Elab.async false
set_option linter.all false
set_option maxRecDepth 100000
set_option maxHeartbeats 4000000
set_option autoImplicit false
/-! list(range(n)): a new list of numbers. -/
namespace DL
open PySem PySem.Spec PyProof.Rows L2

/-- list(range(n)) -/
def rListR (a : RE) : RE := fun δ S => (a δ S).bind fun d S1 => match d with
  | .int j => if 0 ≤ j ∧ j ≤ 16777216 then .ok (.lst (rangeD 0 j)) S1 else .stuck
  | _ => .stuck

section
variable {X : Cx} {W : WX} {a : Expr} {ra : RE} {pos pos2 p p2 : Pos} {wd : World} {K : Fg} {mg : Str → Option Value} {F : Hp} {α : List Addr}
theorem dvs_range (j : Int) : DVs wd K mg F α (rgV 0 j) (rangeD 0 j) := by
  have := DVs.of_ints (wd := wd) (K := K) (mg := mg) (F := F) (α := α) ((List.range (j - 0).toNat).map fun (i : Nat) => (0 + (i : Int)))
  rw [List.map_map, List.map_map] at this
  exact this
theorem pf_listRange (hc : X.calm = true) (hm : X.mg "list" = none) (hm2 : X.mg "range" = none) (ha : PD X W a ra) (hg : Gl X "list" := by rfl) (hg2 : Gl X "range" := by rfl)
    (na : starEach [a] X.env = (false, eval a X.env) :: starEach [] X.env := by rfl) (nb : starEach [.Call (.Name "range" p2) [a] [] pos2] X.env = (false, eval (.Call (.Name "range" p2) [a] [] pos2) X.env) :: starEach [] X.env := by rfl) :
    PF X W (.Call (.Name "list" p) [.Call (.Name "range" p2) [a] [] pos2] [] pos) (rListR ra) := by
  obtain ⟨t, pt, st⟩ := ha.ex
  refine ⟨_, pe_listRg hc hg hm (prg_1 hg2 hm2 pt na) nb, fun α F σ H δ S Q hr hs h => ?_⟩
  refine st α F σ H δ S _ hr hs (wpF.bind h fun d S1 _ x H1 β F1 r1 q1 v1 h1 => ?_)
  split at h1
  · rename_i j _
    cases v1
    split at h1
    · rename_i hj
      refine ⟨j, rfl, RgOk.of_le (by omega) (by omega) (by omega) (by omega), fun q hq => h1.lay r1 hq ⟨rgV 0 j, upd_same, dvs_range j⟩ rfl⟩
    · exact h1.elim
  · exact h1.elim
end
end DL

set_option Elab.async false
set_option linter.all false
set_option maxRecDepth 100000
set_option maxHeartbeats 4000000
set_option autoImplicit false
/-! d.update(e), both dicts with keys ints and texts. -/
namespace L2
open PySem PySem.Spec PyProof.Rows
def tDUpd (td ty : TE) : TE := fun σ H Q => td σ H fun x H1 => ∃ a, x = .ref a ∧ IsD H1 a ∧ ty σ H1 fun y H2 => ∃ o kvs more, y = .ref o ∧ H2 a = some (.dK kvs) ∧ H2 o = some (.dK more) ∧ a ≠ o ∧ kvs.length + more.length ≤ sizeLine ∧ Q .non (upd H2 a (.dK (mergeK kvs more)))
section
variable {X : Cx} {o e f : Expr} {apos cpos : Pos} {td ty tx : TE}
theorem pe_dupd (ho : PE X o td) (he : PE X e ty) (m : M1 X o "update" apos e cpos) : PE X (.Call (.Attribute o "update" apos) [e] [] cpos) (tDUpd td ty) := by
  refine ⟨fun pins s σ H Q I h => ?_⟩
  refine wpAny_Call_method m.base m.few m.line PySem.F.plainAttrs_dict PySem.F.slot_dict_update PySem.F.type_dict_update (thn (ho.run pins s σ H _ I h) fun u s1 ⟨x, H1, I1, rx, a, ex, d, q1⟩ => ?_)
  subst ex
  obtain rfl : u = Value.ref a := rx
  obtain ⟨t1, t2, _⟩ := isD_at I1 d
  refine ⟨t1, t2, ?_⟩
  rw [m.trees]
  refine Calls.callWith_builtin rfl (Calls.evalArgs_plain (Calls.spliced_cons (thn (he.run pins s1 σ H1 _ I1 q1) fun iv s2 ⟨y, H2, I2, ry, b, kvs, more, ey, e1, e2, hne, hz, q2⟩ => Calls.spliced_nil ?_)))
  subst ey
  obtain rfl : iv = Value.ref b := ry
  obtain ⟨z, hd, vs, rel, dd⟩ := dk_of I2.hok e1
  obtain ⟨z2, hd2, vs2, rel2, dd2⟩ := dk_of I2.hok e2
  refine call_meetsIn PySem.F.slot_dict_update dd.typeIs PySem.F.entry_dict_update (PySem.F.args_dict_update_2 _ _) (meets_dict_update (mixKind X.prog X.w) a b hne hd2)
    ⟨vs, vs2, dd, dd2, (by rw [← rel.length, ← rel2.length]; exact hz), fun h' dd' _ hs => ?_⟩
  have he' : ∃ q, h'.get? a = some q := let ⟨q, _, _, hq, _⟩ := dd'; ⟨q, hq⟩
  have hl : (mergeK kvs more).length ≤ sizeLine := Nat.le_trans (length_mergeK more kvs) hz
  exact ⟨.non, _, d_write I2 (by rw [e1]; exact True.intro) hs he' (dk_new hl hd (rel2.merge rel) dd'), rfl, q2⟩
end
end L2
namespace DL
open PySem PySem.Spec PyProof.Rows L2
def updD (n : Nat) (y : D) (S2 : Sto) : Res D := match y with
  | .ptr m => if n = m then .stuck else (match S2[n]?, S2[m]? with
    | some (.dct kvs), some (.dct more) => if kvs.length + more.length ≤ sizeLine then .ok .non (S2.set n (.dct (mergeD kvs more))) else .stuck
    | _, _ => .stuck)
  | _ => .stuck
def rUpd (d e : RE) : RE := fun δ S => (d δ S).bind fun x S1 => match x with
  | .ptr n => (match S1[n]? with
    | some (.dct _) => (e δ S1).bind fun y S2 => updD n y S2
    | _ => .stuck)
  | _ => .stuck
section
variable {X : Cx} {W : WX} {a b : Expr} {ra rb : RE}
theorem pd_upd {apos cpos : Pos} (ha : PD X W a ra) (hb : PD X W b rb) (m : M1 X a "update" apos b cpos := by exact ⟨rfl, rfl, rfl, rfl⟩) : PD X W (.Call (.Attribute a "update" apos) [b] [] cpos) (rUpd ra rb) := by
  obtain ⟨ta, pa, sa⟩ := ha.ex
  obtain ⟨tb, pb, sb⟩ := hb.ex
  refine ⟨_, pe_dupd pa pb m, fun α F σ H δ S Q hr hs h => ?_⟩
  refine sa α F σ H δ S _ hr hs (wp.bind h fun d S1 _ x H1 β F1 r1 s1 v1 h1 => ?_)
  split at h1
  · rename_i n _
    split at h1
    · rename_i kv0 e0
      cases v1 with
      | @ptr _ ad ea =>
        obtain ⟨o0, _⟩ := r1.own _ _ _ ea e0
        obtain ⟨ws0, o1, _⟩ := Own.dctK.mp o0
        refine ⟨ad, rfl, .inl ⟨ws0, .of o1⟩, ?_⟩
        refine sb (α ++ β) F1 σ H1 δ S1 _ r1 (hs.mono s1.sub) (wp.bind h1 fun y S2 _ yv H2 γ F2 r2 s2 v2 h2 => ?_)
        unfold updD at h2
        split at h2
        · rename_i m'
          split at h2
          · exact h2.elim
          · rename_i hnm
            split at h2
            · rename_i kvs more q1 q2
              split at h2
              · rename_i hz
                cases v2 with
                | @ptr _ bd eb =>
                  have ea2 : (α ++ β ++ γ)[n]? = some ad := by rw [List.getElem?_append_left (List.getElem?_eq_some_iff.mp ea).1]; exact ea
                  obtain ⟨p0, _⟩ := r2.own _ _ _ ea2 q1
                  obtain ⟨ws, p1, p2⟩ := Own.dctK.mp p0
                  obtain ⟨g0, _⟩ := r2.own _ _ _ eb q2
                  obtain ⟨wm, g1, g2⟩ := Own.dctK.mp g0
                  have hne : ad ≠ bd := fun z => hnm (by
                    subst z
                    exact (List.getElem?_inj (List.getElem?_eq_some_iff.mp ea2).1 r2.nd).mp (ea2.trans eb.symm))
                  obtain ⟨a1, a2⟩ := r2.setO (o := .dK (mergeK ws wm)) (d := .dct (mergeD kvs more)) ea2 q1 rfl (Own.dctK.mpr ⟨_, upd_same, g2.merge p2⟩)
                  exact ⟨bd, ws, wm, rfl, p1, g1, hne, by rw [p2.length, g2.length]; exact hz, h2 _ _ _ _ a1 a2 .non⟩
              · exact h2.elim
            · exact h2.elim
        · exact h2.elim
    · exact h1.elim
  · exact h1.elim
end
end DL

set_option Elab.async false
set_option linter.all false
set_option maxRecDepth 100000
set_option maxHeartbeats 4000000
set_option autoImplicit false
/-! sorted(d) of a dict with texts for keys, fewer than 64. -/
namespace DL
open PySem PySem.Spec PyProof.Rows L2
def strKeys : List (D × D) → Option (List Str)
  | [] => some []
  | (.str x, _) :: r => (strKeys r).map (x :: ·)
  | _ => none
/-- sorted(d) -/
def gSortKeys : Sto → List D → Option D := fun S ds => match ds with
  | [d] => (match deref S d with
    | .dct kvs => (match strKeys kvs with
      | some ks => if ks.length < 64 then some (.lst ((sortT ks).map .str)) else none
      | none => none)
    | _ => none)
  | _ => none
theorem leT_of {x p : Str} (h : ltCps x.cps.toList p.cps.toList = false) : leT p x = true := by
  rw [ltCps_eq] at h
  exact decide_eq_true (List.not_lt.mp (of_decide_eq_false h))
theorem rising_pairwise : ∀ (r : List Str) (p : Str), risingS p r = true → (p :: r).Pairwise fun a b => leT a b = true
  | [], p, _ => List.pairwise_singleton _ _
  | x :: r, p, h => by
    unfold risingS at h
    rw [Bool.and_eq_true, Bool.not_eq_true'] at h
    have ih := rising_pairwise r x h.2
    refine List.Pairwise.cons (fun y hy => ?_) ih
    rcases List.mem_cons.mp hy with rfl | hy
    · exact leT_of h.1
    · exact leT_trans _ _ _ (leT_of h.1) (List.rel_of_pairwise_cons ih hy)
theorem sorted_is {ys ks : List Str} (p : ys.Perm ks) (h : sortedS ys = true) : ys = sortT ks := by
  have hp : ys.Pairwise fun a b => leT a b = true := by
    cases ys with
    | nil => exact List.Pairwise.nil
    | cons x r => exact rising_pairwise r x h
  exact List.Perm.eq_of_pairwise (le := fun a b => leT a b = true) (fun a b _ _ => leT_anti a b) hp (sortT_pairwise ks) (p.trans (sortT_perm ks).symm)
section
variable {X : Cx} {W : WX} {e : Expr} {es : List Expr} {rs : RA} {pos p : Pos} {wd : World} {K : Fg} {mg : Str → Option Value} {F : Hp} {α : List Addr}
theorem strKeys_of {ws : List (Key × V)} {kvs : List (D × D)} (h : KVs wd K mg F α ws kvs) : ∀ {ks : List Str}, strKeys kvs = some ks → ws.map (·.1) = ks.map Sum.inr := by
  induction h with
  | nil => intro ks e; cases e; rfl
  | @cons j u e ws kvs h1 _ ih =>
    intro ks e1
    cases j with
    | inl i => cases e1
    | inr x =>
      obtain ⟨k2, e2, rfl⟩ := Option.map_eq_some_iff.mp (show (strKeys kvs).map (x :: ·) = some ks from e1)
      rw [List.map_cons, List.map_cons, ih e2]
theorem pf_sortKeys (hcalm : X.calm = true) (hm : X.mg "sorted" = none) (ha : PDs X W (e :: es) rs) (hg : Gl X "sorted" := by rfl) (he : starEach (e :: es) X.env = (false, eval e X.env) :: starEach es X.env := by rfl) (hpl : (backTo pos (starEach es X.env)).any (·.1) = false := by rfl) :
    PF X W (.Call (.Name "sorted" p) (e :: es) [] pos) (rAs gSortKeys rs) := pf_callB (call_sortedD hcalm) (fun α F H S xs ds z Q hr hv hz => by
  unfold gSortKeys at hz
  split at hz
  · cases hv with
    | cons h1 h2 =>
      cases h2
      split at hz
      · rename_i kvs e1
        split at hz
        · rename_i ks e2
          split at hz
          · rename_i hl
            cases hz
            obtain ⟨a, ws, rfl, q, k⟩ := hr.viewD h1 e1
            refine ⟨_, (sortT ks).map .str, rfl, DVs.of_strs _, fun hq => ⟨a, ws, ks, rfl, q, strKeys_of k e2, hl, fun ys p hp hs hn => ?_⟩⟩
            rw [sorted_is hp hs]
            exact hq p hn
          · cases hz
        · cases hz
      · cases hz
  · cases hz) hm ha hg (he := he) (hpl := hpl)
end
end DL

set_option Elab.async false
set_option linter.all false
set_option maxRecDepth 100000
set_option maxHeartbeats 4000000
set_option autoImplicit false
/-! a != b of two dicts whose values are numbers. -/
namespace DL
open PySem PySem.Spec PyProof.Rows L2
inductive HitsV (wm : List (Key × V)) : List (Key × V) → Bool → Prop
  | nil : HitsV wm [] true
  | miss {k : Key} {v : V} {r : List (Key × V)} : valV wm k = none → HitsV wm ((k, v) :: r) false
  | hit {k : Key} {i j : Int} {r : List (Key × V)} {b : Bool} : valV wm k = some (.int j) → HitsV wm r b → HitsV wm ((k, .int i) :: r) (decide (i = j) && b)
theorem hits_of {A : Around} {s : Shared} {wm : List (Key × V)} {vm : List (Key × Value)} (rm : KV wm vm) {ws : List (Key × V)} {r : Bool} (h : HitsV wm ws r) : ∀ {vs : List (Key × Value)}, KV ws vs → PySem.W.KeqHits A s vm vs r := by
  induction h with
  | nil => intro vs hv; unfold KV at hv; cases hv; exact .nil
  | @miss k v r e =>
    intro vs hv
    unfold KV at hv
    cases hv with
    | @cons p q ps qs h1 h2 =>
      obtain ⟨qk, qv⟩ := q
      obtain ⟨e1, e2⟩ := h1
      have e1 : k = qk := e1
      subst e1
      exact .miss (RelO.none_of (by rw [← e]; exact rm.val k))
  | @hit k i j r b e _ ih =>
    intro vs hv
    unfold KV at hv
    cases hv with
    | @cons p q ps qs h1 h2 =>
      obtain ⟨qk, qv⟩ := q
      obtain ⟨e1, e2⟩ := h1
      have e1 : k = qk := e1
      subst e1
      have e2 : RelV (.int i) qv := e2
      obtain ⟨t, rfl⟩ := e2
      have rv := rm.val k
      rw [e] at rv
      cases ev : valueAt vm k with
      | none => rw [ev] at rv; exact rv.elim
      | some y =>
        rw [ev] at rv
        have rv : RelV (.int j) y := rv
        obtain ⟨t', rfl⟩ := rv
        exact .hit ev (show SeqAt.EqAt A s _ _ (decide (i = j)) from PySem.W.keq_flat (PyProof.V.Flat.int i t) (PyProof.V.Flat.int j t')) (ih h2)
/-- a != b of dicts -/
def eqPart (mvs : List (D × D)) : List (D × D) → Option Bool
  | [] => some true
  | (k, .int i) :: r => (match lookD mvs k with
    | none => some false
    | some (.int j) => (eqPart mvs r).map fun b => decide (i = j) && b
    | _ => none)
  | _ => none
def gNeD : Sto → D → D → Option D := fun S a b => match deref S a, deref S b with
  | .dct kvs, .dct mvs => (eqPart mvs kvs).map fun r => .bl (!(kvs.length == mvs.length && r))
  | _, _ => none
section
variable {X : Cx} {W : WX} {wd : World} {K : Fg} {mg : Str → Option Value} {F : Hp} {α : List Addr}
theorem hitsV_of {wm : List (Key × V)} {mvs : List (D × D)} (hm : KVs wd K mg F α wm mvs) {ws : List (Key × V)} {kvs : List (D × D)} (h : KVs wd K mg F α ws kvs) : ∀ {r : Bool}, eqPart mvs kvs = some r → HitsV wm ws r := by
  induction h with
  | nil => intro r e; cases e; exact .nil
  | @cons k v d ws kvs h1 _ ih =>
    intro r e
    obtain ⟨g1, g2⟩ := hm.look k
    cases d with
    | int i =>
      cases h1
      unfold eqPart at e
      cases el : lookD mvs (kD k) with
      | none => rw [el] at e; cases e; exact .miss (g2 el)
      | some z =>
        rw [el] at e
        cases z with
        | int j =>
          obtain ⟨b, e1, rfl⟩ := Option.map_eq_some_iff.mp e
          obtain ⟨v', e2, e3⟩ := g1 _ el
          cases e3
          exact .hit e2 (ih e1)
        | _ => cases e
    | _ => unfold eqPart at e; cases e
theorem g_neD (hu : X.A.units + 64 < cLine) : OpG X (compareOp .NotEq) gNeD := by
  refine ⟨fun x y H Q => ∃ a b ws wm r, x = .ref a ∧ y = .ref b ∧ Rd H a (.dK ws) ∧ Rd H b (.dK wm) ∧ HitsV wm ws r ∧ Q (.bl (!(ws.length == wm.length && r))) H, ?_, ?_⟩
  · intro pins s σ H x y v u Q I rx ry h
    obtain ⟨a, b, ws, wm, r, rfl, rfl, ha, hb, hh, q⟩ := h
    obtain rfl : v = Value.ref a := rx
    obtain rfl : u = Value.ref b := ry
    obtain ⟨z, hd, vs, rel, dd⟩ := dk_rd I.hok ha
    obtain ⟨z2, hd2, vs2, rel2, dd2⟩ := dk_rd I.hok hb
    refine PySem.W.keq_ne hd hd2 dd dd2 (by omega) (fun _ => hits_of rel2 hh rel) ⟨.bl _, H, I, rfl, ?_⟩
    rw [← rel.length, ← rel2.length]
    exact q
  · intro α F H S x y d e z Q hr hx hy hz q
    unfold gNeD at hz
    split at hz
    · rename_i kvs mvs e1 e2
      obtain ⟨r, e3, rfl⟩ := Option.map_eq_some_iff.mp hz
      obtain ⟨a, ws, rfl, p1, p2⟩ := hr.viewD hx e1
      obtain ⟨b, wm, rfl, m1, m2⟩ := hr.viewD hy e2
      refine ⟨a, b, ws, wm, r, rfl, rfl, p1, m1, hitsV_of m2 p2 e3, ?_⟩
      have an : α ++ [] = α := List.append_nil α
      rw [p2.length, m2.length]
      exact q _ H [] F (by rw [an]; exact hr) Stp.refl (.bl _)
    · cases hz
end
end DL

set_option Elab.async false
set_option linter.all false
set_option maxRecDepth 100000
set_option maxHeartbeats 0
set_option autoImplicit false
namespace DL
open PySem L2
def b_boxes_in : RS := (sSeq (sAsg (rOwn (rC (.dct []))) (gName 1))
    (sSeq (sFor (rSeq (rVar 0)) (gTup (gCons (gName 2) (gCons (gName 3) gNil))) (sExpr (rUpd (rVar 1) (rOwn (rAs gDict (rCons (rBin gIx (rVar 2) (rC (.int 0))) rNil))))))
    (sRet (rKeep (rAs gSortKeys (rCons (rVar 1) rNil))))))
def m_boxes_in : Mir := mDef 4 b_boxes_in
def b_choose : RS := (sSeq (sIf (bVal (rBin gGtU (rVar 1) (rVar 0))) (sRet (rC (.int 0))) sNext)
    (sSeq (sAsg (rC (.int 1)) (gName 2))
    (sSeq (sFor (rRange (rCons (rVar 1) rNil)) (gName 3) (sAsg (rBin gDiv (rBin gMul (rVar 2) (rBin gSub (rVar 0) (rVar 3))) (rBin gAdd (rVar 3) (rC (.int 1)))) (gName 2)))
    (sRet (rVar 2)))))
def m_choose : Mir := mDef 4 b_choose
def fuel_raised_0 : Sl → Sto → Nat := fun δ _ => natAt δ 3 + 1
def b_raised : RS := (sSeq (sAsg (rC (.int 1)) (gName 2))
    (sSeq (sAsg (rVar 1) (gName 3))
    (sSeq (sWhile fuel_raised_0 (bVal (rBin gGtU (rVar 3) (rC (.int 0)))) (sSeq (sIf (bVal (rBin gEq (rBin gMod (rVar 3) (rC (.int 2))) (rC (.int 1)))) (sAsg (rBin gMul (rVar 2) (rVar 0)) (gName 2)) sNext)
    (sSeq (sAsg (rBin gDiv (rVar 3) (rC (.int 2))) (gName 3))
    (sAsg (rIf (bVal (rBin gGtU (rVar 3) (rC (.int 0)))) (rBin gMul (rVar 0) (rVar 0)) (rVar 0)) (gName 0)))))
    (sRet (rVar 2)))))
def m_raised : Mir := mDef 4 b_raised
def b_term_at : RS := (sRet (rIf (bVal (rBin gGeU (rVar 2) (rVar 0))) (rBin gMul (rCall m_choose (rCons (rVar 2) (rCons (rVar 0) rNil))) (rCall m_raised (rCons (rVar 1) (rCons (rBin gSub (rVar 2) (rVar 0)) rNil)))) (rC (.int 0))))
def m_term_at : Mir := mDef 3 b_term_at
def fuel_common_divisor_0 : Sl → Sto → Nat := fun δ _ => natAt δ 1 + 1
def b_common_divisor : RS := (sSeq (sPar 0 1 (rCons (rAs gAbs (rCons (rVar 0) rNil)) (rCons (rAs gAbs (rCons (rVar 1) rNil)) rNil)))
    (sSeq (sWhile fuel_common_divisor_0 (bVal (rBin gGtU (rVar 1) (rC (.int 0)))) (sPar 0 1 (rCons (rVar 1) (rCons (rBin gMod (rVar 0) (rVar 1)) rNil))))
    (sRet (rVar 0))))
def m_common_divisor : Mir := mDef 2 b_common_divisor
def b_fraction : RS := (sSeq (sAsg (rBin gMul (rCall m_common_divisor (rCons (rVar 0) (rCons (rVar 1) rNil))) (rIf (bVal (rBin gGtU (rVar 1) (rC (.int 0)))) (rC (.int 1)) (rUn gNeg (rC (.int 1))))) (gName 2))
    (sRet (rTup (rCons (rBin gDiv (rVar 0) (rVar 2)) (rCons (rBin gDiv (rVar 1) (rVar 2)) rNil)))))
def m_fraction : Mir := mDef 3 b_fraction
def b_times : RS := (sRet (rCall m_fraction (rCons (rBin gMul (rBin gIx (rVar 0) (rC (.int 0))) (rBin gIx (rVar 1) (rC (.int 0)))) (rCons (rBin gMul (rBin gIx (rVar 0) (rC (.int 1))) (rBin gIx (rVar 1) (rC (.int 1)))) rNil))))
def m_times : Mir := mDef 2 b_times
def b_is_small : RS := (sRet (rChain gLeU gLeU (rBin gSub (rC (.int 0)) (rC (.int 10000000000000000000000000000000000000000000000000000000000000000000000000000000000000000000000000000000000000000000000000000000000000000000000000000000000000000000000000000000000000000000000000000000000000000000000000000000000000000000000000000000000000000000000000000000000000000000000000000000000000000000000000000000000000000000000000000000000000000000000000000000000000000000000000000000000000000000000000000000000000000000000000000000000000000000000000000000000000000000000000000000000000000000000000000000000000000000000000000000000000000000000000000000000000000000000000000000000000000000000000000000000000000000000000000000000000000000000000000000000000000000000000000000000000000000000000000000000000000000000000000000000000000000000000000000000000000000000000000000000000000000000000000000000000000000000000000000000000000000000000000000000000000000000000000000000000000000000000000000000000000000000000000000000000000000000000000000000000000000000000000000000000000000000000000000000000000))) (rVar 0) (rC (.int 10000000000000000000000000000000000000000000000000000000000000000000000000000000000000000000000000000000000000000000000000000000000000000000000000000000000000000000000000000000000000000000000000000000000000000000000000000000000000000000000000000000000000000000000000000000000000000000000000000000000000000000000000000000000000000000000000000000000000000000000000000000000000000000000000000000000000000000000000000000000000000000000000000000000000000000000000000000000000000000000000000000000000000000000000000000000000000000000000000000000000000000000000000000000000000000000000000000000000000000000000000000000000000000000000000000000000000000000000000000000000000000000000000000000000000000000000000000000000000000000000000000000000000000000000000000000000000000000000000000000000000000000000000000000000000000000000000000000000000000000000000000000000000000000000000000000000000000000000000000000000000000000000000000000000000000000000000000000000000000000000000000000000000000000000000000000000000))))
def m_is_small : Mir := mDef 1 b_is_small
def b_pairs_of : RS := (sSeq (sLock 0 (sAsg (rAs gTuple (rCons (rKeep (rAs gSorted (rCons (rKeep (rLc (rItems (rVar 0)) (gTup (gCons (gName 2) (gCons (gName 3) gNil))) [2, 3] (bVal (rBin gNe (rVar 3) (rC (.tup [(.int 0), (.int 1)])))) (rTup (rCons (rVar 2) (rCons (rVar 3) rNil))))) rNil))) rNil)) (gName 1)))
    (sSeq (sIf (bOr (bVal (rBin gGtU (rAs gLen (rCons (rVar 1) rNil)) (rC (.int 1000)))) (bNot (bTru (rAs gAll (rCons (rKeep (rLc (rSeq (rVar 1)) (gTup (gCons (gName 2) (gCons (gName 3) gNil))) [2, 3] bYes (rAnd (rCall m_is_small (rCons (rBin gIx (rVar 3) (rC (.int 0))) rNil)) (rCall m_is_small (rCons (rBin gIx (rVar 3) (rC (.int 1))) rNil))))) rNil))))) sNever sNext)
    (sRet (rVar 1))))
def m_pairs_of : Mir := mDef 4 b_pairs_of
def b_plus : RS := (sRet (rCall m_fraction (rCons (rBin gAdd (rBin gMul (rBin gIx (rVar 0) (rC (.int 0))) (rBin gIx (rVar 1) (rC (.int 1)))) (rBin gMul (rBin gIx (rVar 1) (rC (.int 0))) (rBin gIx (rVar 0) (rC (.int 1))))) (rCons (rBin gMul (rBin gIx (rVar 0) (rC (.int 1))) (rBin gIx (rVar 1) (rC (.int 1)))) rNil))))
def m_plus : Mir := mDef 2 b_plus
def b_added : RS := (sPutU (rVar 0) (rVar 1) (rCall m_plus (rCons (rGet2 (rVar 0) (rVar 1) (rC (.tup [(.int 0), (.int 1)]))) (rCons (rVar 2) rNil))))
def m_added : Mir := mDef 3 b_added
def b_at_count : RS := (sSeq (sAsg (rOwn (rC (.dct []))) (gName 2))
    (sSeq (sFor (rSeq (rVar 0)) (gTup (gCons (gTup (gCons (gName 3) (gCons (gName 4) (gCons (gName 5) gNil)))) (gCons (gName 6) gNil))) (sExpr (rCall m_added (rCons (rVar 2) (rCons (rVar 3) (rCons (rCall m_times (rCons (rVar 6) (rCons (rCall m_fraction (rCons (rCall m_term_at (rCons (rVar 4) (rCons (rVar 5) (rCons (rVar 1) rNil)))) (rCons (rC (.int 1)) rNil))) rNil))) rNil))))))
    (sRet (rCall m_pairs_of (rCons (rVar 2) rNil)))))
def m_at_count : Mir := mDef 7 b_at_count
def b_plain_value : RS := (sSeq (sAsg (rC (.tup [(.int 0), (.int 1)])) (gName 2))
    (sSeq (sFor (rSeq (rVar 0)) (gTup (gCons (gName 3) (gCons (gName 4) gNil))) (sSeq (sAsg (rC (.int 1)) (gName 5))
    (sSeq (sFor (rSeq (rVar 3)) (gTup (gCons (gName 6) (gCons (gName 7) gNil))) (sAsg (rBin gMul (rVar 5) (rCall m_raised (rCons (rBin gGetU (rVar 1) (rVar 6)) (rCons (rVar 7) rNil)))) (gName 5)))
    (sAsg (rCall m_plus (rCons (rVar 2) (rCons (rCall m_times (rCons (rVar 4) (rCons (rCall m_fraction (rCons (rVar 5) (rCons (rC (.int 1)) rNil))) rNil))) rNil))) (gName 2)))))
    (sRet (rVar 2))))
def m_plain_value : Mir := mDef 8 b_plain_value
def b_form_value : RS := (sRet (rCall m_plain_value (rCons (rCall m_at_count (rCons (rVar 0) (rCons (rVar 2) rNil))) (rCons (rVar 1) rNil))))
def m_form_value : Mir := mDef 3 b_form_value
def b__law_started : RS := (sRet (rOwn (rDisp [((rC (.str "script")), (rVar 0)), ((rC (.str "at")), (rC (.int 0))), ((rC (.str "rest")), (rOwn (rLc (rSeq (rVar 0)) (gName 1) [1] bYes (rBin gMul (rVar 1) (rAs gInt (rCons (rBin gGeU (rVar 1) (rBin gPow (rC (.int 10)) (rC (.int 18)))) rNil))))))])))
def m__law_started : Mir := mDefK 2 b__law_started
def b__law_draw : RS := (sSeq (sAsg (rBin gGetU (rVar 0) (rC (.str "at"))) (gName 2))
    (sSeq (sPutU (rVar 0) (rC (.str "at")) (rBin gAdd (rVar 2) (rC (.int 1))))
    (sSeq (sAsg (rBin gGetU (rVar 0) (rC (.str "script"))) (gName 3))
    (sSeq (sAsg (rIf (bVal (rBin gNe (rBin gGetU (rVar 0) (rC (.str "rest"))) (rKeep (rLst rNil)))) (rBin gIx (rBin gGetU (rVar 0) (rC (.str "rest"))) (rBin gMod (rVar 2) (rAs gLen (rCons (rVar 3) rNil)))) (rC (.int 0))) (gName 4))
    (sSeq (sIf (bVal (rBin gGtU (rVar 4) (rC (.int 0)))) (sSeq (sSetL (rBin gGetU (rVar 0) (rC (.str "rest"))) (rBin gMod (rVar 2) (rAs gLen (rCons (rVar 3) rNil))) (rBin gDiv (rVar 4) (rVar 1)))
    (sRet (rBin gMod (rVar 4) (rVar 1)))) sNext)
    (sSeq (sAsg (rIf (bVal (rBin gNe (rVar 3) (rKeep (rLst rNil)))) (rBin gIx (rVar 3) (rBin gMod (rVar 2) (rAs gLen (rCons (rVar 3) rNil)))) (rC (.int 0))) (gName 5))
    (sSeq (sAsg (rBin gMod (rBin gAdd (rBin gAdd (rBin gMul (rBin gMod (rVar 5) (rC (.int 2147483629))) (rC (.int 48271))) (rBin gMul (rBin gMul (rC (.int 69621)) (rVar 2)) (rVar 2))) (rC (.int 104729))) (rC (.int 2147483647))) (gName 6))
    (sSeq (sAsg (rBin gMod (rBin gMul (rVar 6) (rBin gAdd (rC (.int 16807)) (rBin gMul (rC (.int 2)) (rVar 2)))) (rC (.int 2147483629))) (gName 6))
    (sRet (rBin gMod (rBin gDiv (rBin gMod (rBin gMul (rVar 6) (rVar 6)) (rC (.int 1000000007))) (rC (.int 7))) (rVar 1)))))))))))
def m__law_draw : Mir := mDef 7 b__law_draw
def b__law_of : RS := (sRet (rBin gIx (rVar 1) (rCall m__law_draw (rCons (rVar 0) (rCons (rAs gLen (rCons (rVar 1) rNil)) rNil)))))
def m__law_of : Mir := mDef 2 b__law_of
def b__law_base : RS := (sRet (rCall m__law_of (rCons (rVar 0) (rCons (rKeep (rLst (rCons (rC (.int 0)) (rCons (rC (.int 0)) (rCons (rC (.int 1)) (rCons (rC (.int 1)) (rCons (rUn gNeg (rC (.int 1))) (rCons (rC (.int 2)) (rCons (rUn gNeg (rC (.int 2))) (rCons (rC (.int 3)) (rCons (rUn gNeg (rC (.int 7))) (rCons (rC (.int 10)) (rCons (rBin gSub (rCall m__law_draw (rCons (rVar 0) (rCons (rBin gPow (rC (.int 10)) (rC (.int 9))) rNil))) (rBin gPow (rC (.int 10)) (rC (.int 8)))) rNil))))))))))))) rNil))))
def m__law_base : Mir := mDef 1 b__law_base
def fuel__law_common_0 : Sl → Sto → Nat := fun δ _ => natAt δ 1 + 1
def b__law_common : RS := (sSeq (sWhile fuel__law_common_0 (bVal (rBin gGtU (rVar 1) (rC (.int 0)))) (sPar 0 1 (rCons (rVar 1) (rCons (rBin gMod (rVar 0) (rVar 1)) rNil))))
    (sRet (rVar 0)))
def m__law_common : Mir := mDef 2 b__law_common
def b__law_share : RS := (sSeq (sAsg (rCall m__law_common (rCons (rAs gAbs (rCons (rVar 0) rNil)) (rCons (rVar 1) rNil))) (gName 2))
    (sRet (rTup (rCons (rBin gDiv (rVar 0) (rVar 2)) (rCons (rBin gDiv (rVar 1) (rVar 2)) rNil)))))
def m__law_share : Mir := mDef 3 b__law_share
def b__law_pairs : RS := (sLock 0 (sRet (rAs gTuple (rCons (rKeep (rAs gSorted (rCons (rKeep (rLc (rItems (rVar 0)) (gTup (gCons (gName 1) (gCons (gName 2) gNil))) [1, 2] (bVal (rBin gNe (rBin gIx (rVar 2) (rC (.int 0))) (rC (.int 0)))) (rTup (rCons (rVar 1) (rCons (rVar 2) rNil))))) rNil))) rNil))))
def m__law_pairs : Mir := mDef 3 b__law_pairs
def b__law_mono : RS := (sSeq (sAsg (rOwn (rC (.dct []))) (gName 2))
    (sSeq (sFor (rRange (rCons (rCall m__law_draw (rCons (rVar 0) (rCons (rBin gAdd (rVar 1) (rC (.int 1))) rNil))) rNil)) (gName 3) (sSeq (sAsg (rCall m__law_of (rCons (rVar 0) (rCons (rKeep (rLst (rCons (rC (.str "gull")) (rCons (rC (.str "x")) (rCons (rC (.str "arc")) (rCons (rC (.str "zz")) (rCons (rC (.str "b")) rNil))))))) rNil))) (gName 4))
    (sPutU (rVar 2) (rVar 4) (rBin gAdd (rGet2 (rVar 2) (rVar 4) (rC (.int 0))) (rC (.int 1))))))
    (sRet (rAs gTuple (rCons (rKeep (rSortItems (rVar 2))) rNil)))))
def m__law_mono : Mir := mDef 5 b__law_mono
def b__law_number : RS := (sSeq (sAsg (rKeep (rLst (rCons (rC (.int 1)) (rCons (rUn gNeg (rC (.int 1))) (rCons (rC (.int 2)) (rCons (rC (.int 3)) (rCons (rUn gNeg (rC (.int 5))) (rCons (rCall m__law_draw (rCons (rVar 0) (rCons (rC (.int 12)) rNil))) (rCons (rBin gSub (rC (.int 0)) (rCall m__law_draw (rCons (rVar 0) (rCons (rBin gPow (rC (.int 10)) (rC (.int 6))) rNil)))) (rCons (rBin gAdd (rBin gPow (rC (.int 10)) (rC (.int 20))) (rCall m__law_draw (rCons (rVar 0) (rCons (rBin gPow (rC (.int 10)) (rC (.int 6))) rNil)))) rNil)))))))))) (gName 1))
    (sSeq (sAsg (rCall m__law_of (rCons (rVar 0) (rCons (rVar 1) rNil))) (gName 2))
    (sRet (rIf (bVal (rBin gNe (rVar 2) (rC (.int 0)))) (rVar 2) (rC (.int 4))))))
def m__law_number : Mir := mDef 3 b__law_number
def b__law_form : RS := (sSeq (sAsg (rOwn (rC (.dct []))) (gName 3))
    (sSeq (sFor (rRange (rCons (rCall m__law_draw (rCons (rVar 0) (rCons (rBin gAdd (rVar 1) (rC (.int 1))) rNil))) rNil)) (gName 4) (sSeq (sAsg (rTup (rCons (rCall m__law_mono (rCons (rVar 0) (rCons (rVar 2) rNil))) (rCons (rCall m__law_of (rCons (rVar 0) (rCons (rKeep (rLst (rCons (rC (.int 0)) (rCons (rC (.int 0)) (rCons (rC (.int 0)) (rCons (rC (.int 1)) (rCons (rC (.int 1)) (rCons (rC (.int 2)) (rCons (rC (.int 3)) rNil))))))))) rNil))) (rCons (rCall m__law_base (rCons (rVar 0) rNil)) rNil)))) (gName 5))
    (sPutU (rVar 3) (rVar 5) (rCall m__law_share (rCons (rCall m__law_number (rCons (rVar 0) rNil)) (rCons (rBin gAdd (rC (.int 1)) (rCall m__law_draw (rCons (rVar 0) (rCons (rCall m__law_of (rCons (rVar 0) (rCons (rKeep (rLst (rCons (rC (.int 1)) (rCons (rC (.int 1)) (rCons (rC (.int 6)) (rCons (rC (.int 60)) rNil)))))) rNil))) rNil)))) rNil))))))
    (sRet (rCall m__law_pairs (rCons (rVar 3) rNil)))))
def m__law_form : Mir := mDef 6 b__law_form
def b__law_values : RS := (sSeq (sAsg (rOwn (rC (.dct []))) (gName 1))
    (sSeq (sFor (rSeq (rKeep (rLst (rCons (rC (.str "gull")) (rCons (rC (.str "x")) (rCons (rC (.str "arc")) (rCons (rC (.str "zz")) (rCons (rC (.str "b")) rNil)))))))) (gName 2) (sPutU (rVar 1) (rVar 2) (rCall m__law_of (rCons (rVar 0) (rCons (rKeep (rLst (rCons (rC (.int 0)) (rCons (rC (.int 1)) (rCons (rUn gNeg (rC (.int 1))) (rCons (rCall m__law_draw (rCons (rVar 0) (rCons (rC (.int 9)) rNil))) (rCons (rBin gSub (rC (.int 0)) (rCall m__law_draw (rCons (rVar 0) (rCons (rC (.int 100)) rNil)))) (rCons (rCall m__law_draw (rCons (rVar 0) (rCons (rBin gPow (rC (.int 10)) (rC (.int 12))) rNil))) rNil)))))))) rNil)))))
    (sRet (rVar 1))))
def m__law_values : Mir := mDefK 3 b__law_values
def b__law_power : RS := (sSeq (sAsg (rC (.int 1)) (gName 2))
    (sSeq (sFor (rRange (rCons (rVar 1) rNil)) (gName 3) (sAsg (rBin gMul (rVar 2) (rVar 0)) (gName 2)))
    (sRet (rVar 2))))
def m__law_power : Mir := mDef 4 b__law_power
def b__law_term : RS := (sSeq (sIf (bVal (rBin gLtU (rVar 2) (rVar 0))) (sRet (rC (.int 0))) sNext)
    (sSeq (sAsg (rC (.int 1)) (gName 3))
    (sSeq (sFor (rRange (rCons (rVar 0) rNil)) (gName 4) (sAsg (rBin gDiv (rBin gMul (rVar 3) (rBin gSub (rVar 2) (rVar 4))) (rBin gAdd (rVar 4) (rC (.int 1)))) (gName 3)))
    (sRet (rBin gMul (rVar 3) (rCall m__law_power (rCons (rVar 1) (rCons (rBin gSub (rVar 2) (rVar 0)) rNil))))))))
def m__law_term : Mir := mDef 5 b__law_term
def b__law_plus : RS := (sRet (rCall m__law_share (rCons (rBin gAdd (rBin gMul (rBin gIx (rVar 0) (rC (.int 0))) (rBin gIx (rVar 1) (rC (.int 1)))) (rBin gMul (rBin gIx (rVar 1) (rC (.int 0))) (rBin gIx (rVar 0) (rC (.int 1))))) (rCons (rBin gMul (rBin gIx (rVar 0) (rC (.int 1))) (rBin gIx (rVar 1) (rC (.int 1)))) rNil))))
def m__law_plus : Mir := mDef 2 b__law_plus
def b__law_put : RS := (sPutU (rVar 0) (rVar 1) (rCall m__law_plus (rCons (rGet2 (rVar 0) (rVar 1) (rTup (rCons (rC (.int 0)) (rCons (rC (.int 1)) rNil)))) (rCons (rVar 2) rNil))))
def m__law_put : Mir := mDef 3 b__law_put
def b__law_at : RS := (sSeq (sAsg (rOwn (rC (.dct []))) (gName 2))
    (sSeq (sFor (rSeq (rVar 0)) (gTup (gCons (gTup (gCons (gName 3) (gCons (gName 4) (gCons (gName 5) gNil)))) (gCons (gName 6) gNil))) (sExpr (rCall m__law_put (rCons (rVar 2) (rCons (rVar 3) (rCons (rCall m__law_share (rCons (rBin gMul (rBin gIx (rVar 6) (rC (.int 0))) (rCall m__law_term (rCons (rVar 4) (rCons (rVar 5) (rCons (rVar 1) rNil))))) (rCons (rBin gIx (rVar 6) (rC (.int 1))) rNil))) rNil))))))
    (sRet (rCall m__law_pairs (rCons (rVar 2) rNil)))))
def m__law_at : Mir := mDef 7 b__law_at
def b__law_worth : RS := (sSeq (sAsg (rTup (rCons (rC (.int 0)) (rCons (rC (.int 1)) rNil))) (gName 2))
    (sSeq (sFor (rSeq (rVar 0)) (gTup (gCons (gName 3) (gCons (gName 4) gNil))) (sSeq (sAsg (rC (.int 1)) (gName 5))
    (sSeq (sFor (rSeq (rVar 3)) (gTup (gCons (gName 6) (gCons (gName 7) gNil))) (sAsg (rBin gMul (rVar 5) (rCall m__law_power (rCons (rBin gGetU (rVar 1) (rVar 6)) (rCons (rVar 7) rNil)))) (gName 5)))
    (sAsg (rCall m__law_plus (rCons (rVar 2) (rCons (rCall m__law_share (rCons (rBin gMul (rBin gIx (rVar 4) (rC (.int 0))) (rVar 5)) (rCons (rBin gIx (rVar 4) (rC (.int 1))) rNil))) rNil))) (gName 2)))))
    (sRet (rVar 2))))
def m__law_worth : Mir := mDef 8 b__law_worth
def b__law_great_right : RS := (sSeq (sAsg (rTup (rCons (rTup (rCons (rTup (rCons (rTup (rCons (rC (.str "b")) (rCons (rC (.int 7)) rNil))) (rCons (rTup (rCons (rC (.str "x")) (rCons (rC (.int 5)) rNil))) rNil))) (rCons (rTup (rCons (rC (.int 1)) (rCons (rC (.int 3)) rNil))) rNil))) (rCons (rTup (rCons (rTup (rCons (rTup (rCons (rC (.str "x")) (rCons (rC (.int 12)) rNil))) rNil)) (rCons (rTup (rCons (rUn gNeg (rC (.int 1))) (rCons (rC (.int 1)) rNil))) rNil))) rNil))) (gName 1))
    (sSeq (sAsg (rOwn (rDisp [((rC (.str "b")), (rBin gAdd (rC (.int 2)) (rCall m__law_draw (rCons (rVar 0) (rCons (rC (.int 9)) rNil))))), ((rC (.str "x")), (rBin gAdd (rC (.int 3)) (rCall m__law_draw (rCons (rVar 0) (rCons (rC (.int 9)) rNil)))))])) (gName 2))
    (sSeq (sAsg (rOwn (rDisp [((rC (.str "b")), (rBin gSub (rC (.int 7)) (rBin gPow (rBin gPow (rC (.int 10)) (rC (.int 50))) (rC (.int 2))))), ((rC (.str "x")), (rBin gAdd (rBin gPow (rBin gPow (rC (.int 10)) (rC (.int 50))) (rC (.int 2))) (rCall m__law_draw (rCons (rVar 0) (rCons (rC (.int 99)) rNil)))))])) (gName 3))
    (sSeq (sFor (rSeq (rTup (rCons (rVar 2) (rCons (rVar 3) rNil)))) (gName 4) (sIf (bVal (rBin gNe (rAs gReprW (rCons (rCall m_plain_value (rCons (rVar 1) (rCons (rVar 4) rNil))) rNil)) (rAs gReprW (rCons (rCall m__law_worth (rCons (rVar 1) (rCons (rVar 4) rNil))) rNil)))) (sRet (rC (.bl false))) sNext))
    (sSeq (sPar 5 6 (rCons (rCall m__law_of (rCons (rVar 0) (rCons (rKeep (rLst (rCons (rC (.int 40)) (rCons (rC (.int 60)) (rCons (rC (.int 99)) rNil))))) rNil))) (rCons (rCall m__law_base (rCons (rVar 0) rNil)) rNil)))
    (sSeq (sAsg (rTup (rCons (rTup (rCons (rTup (rCons (rTup (rCons (rTup (rCons (rC (.str "x")) (rCons (rC (.int 12)) rNil))) rNil)) (rCons (rVar 5) (rCons (rVar 6) rNil)))) (rCons (rTup (rCons (rC (.int 1)) (rCons (rC (.int 3)) rNil))) rNil))) rNil)) (gName 7))
    (sSeq (sFor (rSeq (rTup (rCons (rBin gSub (rVar 5) (rC (.int 1))) (rCons (rVar 5) (rCons (rBin gAdd (rVar 5) (rC (.int 1))) (rCons (rC (.int 120)) rNil)))))) (gName 8) (sSeq (sIf (bVal (rBin gNe (rAs gReprW (rCons (rCall m_term_at (rCons (rVar 5) (rCons (rVar 6) (rCons (rVar 8) rNil)))) rNil)) (rAs gReprW (rCons (rCall m__law_term (rCons (rVar 5) (rCons (rVar 6) (rCons (rVar 8) rNil)))) rNil)))) (sRet (rC (.bl false))) sNext)
    (sIf (bVal (rBin gNe (rAs gReprW (rCons (rCall m_at_count (rCons (rVar 7) (rCons (rVar 8) rNil))) rNil)) (rAs gReprW (rCons (rCall m__law_at (rCons (rVar 7) (rCons (rVar 8) rNil))) rNil)))) (sRet (rC (.bl false))) sNext)))
    (sRet (rC (.bl true))))))))))
def m__law_great_right : Mir := mDef 9 b__law_great_right
def b_law : RS := (sSeq (sAsg (rCall m__law_started (rCons (rVar 0) rNil)) (gName 1))
    (sSeq (sFor (rRange (rCons (rAs gMax (rCons (rC (.int 3)) (rCons (rAs gMin (rCons (rC (.int 12)) (rCons (rAs gLen (rCons (rVar 0) rNil)) rNil))) rNil))) rNil)) (gName 2) (sSeq (sAsg (rCall m__law_form (rCons (rVar 1) (rCons (rC (.int 6)) (rCons (rC (.int 4)) rNil)))) (gName 3))
    (sSeq (sAsg (rCall m__law_values (rCons (rVar 1) rNil)) (gName 4))
    (sSeq (sAsg (rOwn (rC (.dct []))) (gName 5))
    (sSeq (sFor (rSeq (rVar 3)) (gTup (gCons (gName 6) (gCons (gName 7) gNil))) (sExpr (rUpd (rVar 5) (rOwn (rAs gDict (rCons (rBin gIx (rVar 6) (rC (.int 0))) rNil))))))
    (sSeq (sIf (bVal (rBin gNe (rAs gReprW (rCons (rCall m_boxes_in (rCons (rVar 3) rNil)) rNil)) (rAs gReprW (rCons (rKeep (rAs gSortKeys (rCons (rVar 5) rNil))) rNil)))) (sRet (rC (.bl false))) sNext)
    (sFor (rSeq (rKeep (rBin gCat (rKeep (rListR (rC (.int 9)))) (rKeep (rLst (rCons (rBin gAdd (rC (.int 9)) (rCall m__law_draw (rCons (rVar 1) (rCons (rC (.int 52)) rNil)))) rNil)))))) (gName 8) (sSeq (sPar 9 10 (rCons (rCall m__law_draw (rCons (rVar 1) (rCons (rC (.int 12)) rNil))) (rCons (rCall m__law_base (rCons (rVar 1) rNil)) rNil)))
    (sSeq (sIf (bVal (rBin gNe (rAs gReprW (rCons (rCall m_term_at (rCons (rVar 9) (rCons (rVar 10) (rCons (rVar 8) rNil)))) rNil)) (rAs gReprW (rCons (rCall m__law_term (rCons (rVar 9) (rCons (rVar 10) (rCons (rVar 8) rNil)))) rNil)))) (sRet (rC (.bl false))) sNext)
    (sSeq (sAsg (rCall m__law_at (rCons (rVar 3) (rCons (rVar 8) rNil))) (gName 11))
    (sSeq (sIf (bVal (rBin gNe (rAs gReprW (rCons (rCall m_at_count (rCons (rVar 3) (rCons (rVar 8) rNil))) rNil)) (rAs gReprW (rCons (rVar 11) rNil)))) (sRet (rC (.bl false))) sNext)
    (sSeq (sPar 12 13 (rCons (rOwn (rAs gDict (rCons (rVar 4) rNil))) (rCons (rCall m__law_worth (rCons (rVar 11) (rCons (rVar 4) rNil))) rNil)))
    (sSeq (sIf (bOr (bVal (rBin gNe (rAs gReprW (rCons (rCall m_form_value (rCons (rVar 3) (rCons (rVar 12) (rCons (rVar 8) rNil)))) rNil)) (rAs gReprW (rCons (rVar 13) rNil)))) (bVal (rBin gNeD (rVar 12) (rVar 4)))) (sRet (rC (.bl false))) sNext)
    (sIf (bOr (bVal (rBin gNe (rAs gReprW (rCons (rCall m_plain_value (rCons (rVar 11) (rCons (rVar 12) rNil))) rNil)) (rAs gReprW (rCons (rVar 13) rNil)))) (bVal (rBin gNeD (rVar 12) (rVar 4)))) (sRet (rC (.bl false))) sNext))))))))))))))
    (sRet (rCall m__law_great_right (rCons (rVar 1) rNil)))))
def m_law : Mir := mDef 14 b_law
end DL

set_option Elab.async false
set_option linter.all false
set_option maxRecDepth 100000
set_option maxHeartbeats 0
set_option autoImplicit false
namespace DL
open PySem PySem.Spec PyProof.Rows L2
def top (i : Nat) : Stmt := PySem.Challenge.pw_roundless_k19_what_forms_are_worth.main.body.getD i (.Pass ⟨0, 0, 0, 0⟩)
abbrev st_boxes_in : Stmt := top 16
abbrev st_choose : Stmt := top 9
abbrev st_raised : Stmt := top 17
abbrev st_term_at : Stmt := top 18
abbrev st_common_divisor : Stmt := top 5
abbrev st_fraction : Stmt := top 6
abbrev st_times : Stmt := top 8
abbrev st_is_small : Stmt := top 13
abbrev st_pairs_of : Stmt := top 14
abbrev st_plus : Stmt := top 7
abbrev st_added : Stmt := top 15
abbrev st_at_count : Stmt := top 19
abbrev st_plain_value : Stmt := top 20
abbrev st_form_value : Stmt := top 21
abbrev st__law_started : Stmt := top 23
abbrev st__law_draw : Stmt := top 24
abbrev st__law_of : Stmt := top 25
abbrev st__law_base : Stmt := top 33
abbrev st__law_common : Stmt := top 26
abbrev st__law_share : Stmt := top 27
abbrev st__law_pairs : Stmt := top 30
abbrev st__law_mono : Stmt := top 31
abbrev st__law_number : Stmt := top 32
abbrev st__law_form : Stmt := top 34
abbrev st__law_values : Stmt := top 35
abbrev st__law_power : Stmt := top 36
abbrev st__law_term : Stmt := top 37
abbrev st__law_plus : Stmt := top 28
abbrev st__law_put : Stmt := top 29
abbrev st__law_at : Stmt := top 38
abbrev st__law_worth : Stmt := top 39
abbrev st__law_great_right : Stmt := top 40
abbrev st_law : Stmt := top 41
/-- what the text gives -/
structure Txt (K : Fg) (mg : Str → Option Value) : Prop where
  d_boxes_in : Fd K mg "boxes_in" st_boxes_in ["form"]
  d_choose : Fd K mg "choose" st_choose ["many", "some"]
  d_raised : Fd K mg "raised" st_raised ["number", "often"]
  d_term_at : Fd K mg "term_at" st_term_at ["place", "base", "count"]
  d_common_divisor : Fd K mg "common_divisor" st_common_divisor ["one", "other"]
  d_fraction : Fd K mg "fraction" st_fraction ["above", "below"]
  d_times : Fd K mg "times" st_times ["one", "other"]
  d_is_small : Fd K mg "is_small" st_is_small ["number"]
  d_pairs_of : Fd K mg "pairs_of" st_pairs_of ["found"]
  d_plus : Fd K mg "plus" st_plus ["one", "other"]
  d_added : Fd K mg "added" st_added ["found", "key", "share"]
  d_at_count : Fd K mg "at_count" st_at_count ["form", "count"]
  d_plain_value : Fd K mg "plain_value" st_plain_value ["plain", "values"]
  d_form_value : Fd K mg "form_value" st_form_value ["form", "values", "count"]
  d__law_started : Fd K mg "_law_started" st__law_started ["_law_script"]
  d__law_draw : Fd K mg "_law_draw" st__law_draw ["_law_m", "_law_many"]
  d__law_of : Fd K mg "_law_of" st__law_of ["_law_m", "_law_some"]
  d__law_base : Fd K mg "_law_base" st__law_base ["_law_m"]
  d__law_common : Fd K mg "_law_common" st__law_common ["_law_one", "_law_other"]
  d__law_share : Fd K mg "_law_share" st__law_share ["_law_above", "_law_below"]
  d__law_pairs : Fd K mg "_law_pairs" st__law_pairs ["_law_found"]
  d__law_mono : Fd K mg "_law_mono" st__law_mono ["_law_m", "_law_most"]
  d__law_number : Fd K mg "_law_number" st__law_number ["_law_m"]
  d__law_form : Fd K mg "_law_form" st__law_form ["_law_m", "_law_many", "_law_most"]
  d__law_values : Fd K mg "_law_values" st__law_values ["_law_m"]
  d__law_power : Fd K mg "_law_power" st__law_power ["_law_number_here", "_law_often"]
  d__law_term : Fd K mg "_law_term" st__law_term ["_law_place", "_law_base_here", "_law_count"]
  d__law_plus : Fd K mg "_law_plus" st__law_plus ["_law_one", "_law_other"]
  d__law_put : Fd K mg "_law_put" st__law_put ["_law_found", "_law_key", "_law_share_here"]
  d__law_at : Fd K mg "_law_at" st__law_at ["_law_form_here", "_law_count"]
  d__law_worth : Fd K mg "_law_worth" st__law_worth ["_law_plain", "_law_values_here"]
  d__law_great_right : Fd K mg "_law_great_right" st__law_great_right ["_law_m"]
  d_law : Fd K mg "law" st_law ["_law_script"]
  n_abs : mg "abs" = none
  n_all : mg "all" = none
  n_dict : mg "dict" = none
  n_int : mg "int" = none
  n_len : mg "len" = none
  n_list : mg "list" = none
  n_max : mg "max" = none
  n_min : mg "min" = none
  n_range : mg "range" = none
  n_repr : mg "repr" = none
  n_sorted : mg "sorted" = none
  n_tuple : mg "tuple" = none
  g_GREATEST : ∃ t, mg "GREATEST" = some (.int 10000000000000000000000000000000000000000000000000000000000000000000000000000000000000000000000000000000000000000000000000000000000000000000000000000000000000000000000000000000000000000000000000000000000000000000000000000000000000000000000000000000000000000000000000000000000000000000000000000000000000000000000000000000000000000000000000000000000000000000000000000000000000000000000000000000000000000000000000000000000000000000000000000000000000000000000000000000000000000000000000000000000000000000000000000000000000000000000000000000000000000000000000000000000000000000000000000000000000000000000000000000000000000000000000000000000000000000000000000000000000000000000000000000000000000000000000000000000000000000000000000000000000000000000000000000000000000000000000000000000000000000000000000000000000000000000000000000000000000000000000000000000000000000000000000000000000000000000000000000000000000000000000000000000000000000000000000000000000000000000000000000000000000000000000000000000000000 t)
  g_MOST_PAIRS : ∃ t, mg "MOST_PAIRS" = some (.int 1000 t)
  g_NOUGHT : ∀ w, Lit w K mg "NOUGHT" (.tup [(.int 0), (.int 1)])
  dig : NoDig K
section
variable {P : Program} {w : World} {K : Fg} {mg : Str → Option Value} {base : Heap}
theorem sc_boxes_in : FnScope ["form", "found", "kind", "share"] ["form"] (defScope st_boxes_in) := ⟨rfl, rfl, rfl, by decide +kernel, rfl, by decide +kernel, by decide +kernel⟩
theorem ok_boxes_in (T : Txt K mg) : Fn P w K mg base "boxes_in" 1 1 m_boxes_in := fn_mk (N := ["form", "found", "kind", "share"]) (ps := ["form"]) (r := b_boxes_in) T.d_boxes_in sc_boxes_in fun f cdv A outer s H E en tk =>
  have nd := sc_boxes_in.nd
  (psds_cons (psd_asg (pd_own pf_dnew) (pgd_name 1 nd).pg)
    (psds_cons (psd_for en.hp rfl (pid_seq (pd_var 0)) (pgn_tup rfl (pgds_cons (pgd_name 2 nd) (pgds_cons (pgd_name 3 nd) pgds_nil))).pg (psds_one (psd_expr (pd_upd (pd_var 1) (pd_own (pf_dict rfl en.u12 T.n_dict (pds_cons (pd_ix (pd_var 2) pd_int) pds_nil)))))))
    (psds_one (psd_ret (pd_keep (pf_sortKeys rfl T.n_sorted (pds_cons (pd_var 1) pds_nil)))))))
theorem sc_choose : FnScope ["many", "some", "found", "place"] ["many", "some"] (defScope st_choose) := ⟨rfl, rfl, rfl, by decide +kernel, rfl, by decide +kernel, by decide +kernel⟩
theorem ok_choose (T : Txt K mg) : Fn P w K mg base "choose" 2 1 m_choose := fn_mk (N := ["many", "some", "found", "place"]) (ps := ["many", "some"]) (r := b_choose) T.d_choose sc_choose fun f cdv A outer s H E en tk =>
  have nd := sc_choose.nd
  (psds_cons (psd_if (pb_cmp (g_gtU en.u64) (pd_var 1) (pd_var 0) (by rfl)) (psds_one (psd_ret pd_int)) psds_nil)
    (psds_cons (psd_asg pd_int (pgd_name 2 nd).pg)
    (psds_cons (psd_for en.hp rfl (pid_range1 T.n_range (pds_cons (pd_var 1) pds_nil)) (pgd_name 3 nd).pg (psds_one (psd_asg (pd_bin g_div (pd_bin g_mul (pd_var 2) (pd_bin g_sub (pd_var 0) (pd_var 3))) (pd_bin g_add (pd_var 3) pd_int)) (pgd_name 2 nd).pg)))
    (psds_one (psd_ret (pd_var 2))))))
theorem sc_raised : FnScope ["number", "often", "found", "left"] ["number", "often"] (defScope st_raised) := ⟨rfl, rfl, rfl, by decide +kernel, rfl, by decide +kernel, by decide +kernel⟩
theorem ok_raised (T : Txt K mg) : Fn P w K mg base "raised" 2 1 m_raised := fn_mk (N := ["number", "often", "found", "left"]) (ps := ["number", "often"]) (r := b_raised) T.d_raised sc_raised fun f cdv A outer s H E en tk =>
  have nd := sc_raised.nd
  (psds_cons (psd_asg pd_int (pgd_name 2 nd).pg)
    (psds_cons (psd_asg (pd_var 1) (pgd_name 3 nd).pg)
    (psds_cons (psd_while fuel_raised_0 en.hp (pb_cmp (g_gtU en.u64) (pd_var 3) pd_int (by rfl)) (psds_cons (psd_if (pb_cmp (g_eq en.u64) (pd_bin g_mod (pd_var 3) pd_int) pd_int (by rfl)) (psds_one (psd_asg (pd_bin g_mul (pd_var 2) (pd_var 0)) (pgd_name 2 nd).pg)) psds_nil)
    (psds_cons (psd_asg (pd_bin g_div (pd_var 3) pd_int) (pgd_name 3 nd).pg)
    (psds_one (psd_asg (pd_if (pb_cmp (g_gtU en.u64) (pd_var 3) pd_int (by rfl)) (pd_bin g_mul (pd_var 0) (pd_var 0)) (pd_var 0)) (pgd_name 0 nd).pg)))))
    (psds_one (psd_ret (pd_var 2))))))
theorem sc_term_at : FnScope ["place", "base", "count"] ["place", "base", "count"] (defScope st_term_at) := ⟨rfl, rfl, rfl, by decide +kernel, rfl, by decide +kernel, by decide +kernel⟩
theorem ok_term_at (T : Txt K mg) : Fn P w K mg base "term_at" 3 2 m_term_at := fn_mk (N := ["place", "base", "count"]) (ps := ["place", "base", "count"]) (r := b_term_at) T.d_term_at sc_term_at fun f cdv A outer s H E en tk =>
  have nd := sc_term_at.nd
  (psds_one (psd_ret (pd_if (pb_cmp (g_geU en.u64) (pd_var 2) (pd_var 0) (by rfl)) (pd_bin g_mul (pd_fn (ok_choose T) (en.room.mono (by decide)) en.gu tk (pds_cons (pd_var 2) (pds_cons (pd_var 0) pds_nil))) (pd_fn (ok_raised T) (en.room.mono (by decide)) en.gu tk (pds_cons (pd_var 1) (pds_cons (pd_bin g_sub (pd_var 2) (pd_var 0)) pds_nil)))) pd_int)))
theorem sc_common_divisor : FnScope ["one", "other"] ["one", "other"] (defScope st_common_divisor) := ⟨rfl, rfl, rfl, by decide +kernel, rfl, by decide +kernel, by decide +kernel⟩
theorem ok_common_divisor (T : Txt K mg) : Fn P w K mg base "common_divisor" 2 1 m_common_divisor := fn_mk (N := ["one", "other"]) (ps := ["one", "other"]) (r := b_common_divisor) T.d_common_divisor sc_common_divisor fun f cdv A outer s H E en tk =>
  have nd := sc_common_divisor.nd
  (psds_cons (psd_par rfl nd (pds_cons (pd_callB (hv := bv_abs) b_abs T.n_abs (pds_cons (pd_var 0) pds_nil)) (pds_cons (pd_callB (hv := bv_abs) b_abs T.n_abs (pds_cons (pd_var 1) pds_nil)) pds_nil)))
    (psds_cons (psd_while fuel_common_divisor_0 en.hp (pb_cmp (g_gtU en.u64) (pd_var 1) pd_int (by rfl)) (psds_one (psd_par rfl nd (pds_cons (pd_var 1) (pds_cons (pd_bin g_mod (pd_var 0) (pd_var 1)) pds_nil)))))
    (psds_one (psd_ret (pd_var 0)))))
theorem sc_fraction : FnScope ["above", "below", "divisor"] ["above", "below"] (defScope st_fraction) := ⟨rfl, rfl, rfl, by decide +kernel, rfl, by decide +kernel, by decide +kernel⟩
theorem ok_fraction (T : Txt K mg) : Fn P w K mg base "fraction" 2 2 m_fraction := fn_mk (N := ["above", "below", "divisor"]) (ps := ["above", "below"]) (r := b_fraction) T.d_fraction sc_fraction fun f cdv A outer s H E en tk =>
  have nd := sc_fraction.nd
  (psds_cons (psd_asg (pd_bin g_mul (pd_fn (ok_common_divisor T) (en.room.mono (by decide)) en.gu tk (pds_cons (pd_var 0) (pds_cons (pd_var 1) pds_nil))) (pd_if (pb_cmp (g_gtU en.u64) (pd_var 1) pd_int (by rfl)) pd_int (pd_neg pd_int))) (pgd_name 2 nd).pg)
    (psds_one (psd_ret (pd_tup (pds_cons (pd_bin g_div (pd_var 0) (pd_var 2)) (pds_cons (pd_bin g_div (pd_var 1) (pd_var 2)) pds_nil))))))
theorem sc_times : FnScope ["one", "other"] ["one", "other"] (defScope st_times) := ⟨rfl, rfl, rfl, by decide +kernel, rfl, by decide +kernel, by decide +kernel⟩
theorem ok_times (T : Txt K mg) : Fn P w K mg base "times" 2 3 m_times := fn_mk (N := ["one", "other"]) (ps := ["one", "other"]) (r := b_times) T.d_times sc_times fun f cdv A outer s H E en tk =>
  have nd := sc_times.nd
  (psds_one (psd_ret (pd_fn (ok_fraction T) (en.room.mono (by decide)) en.gu tk (pds_cons (pd_bin g_mul (pd_ix (pd_var 0) pd_int) (pd_ix (pd_var 1) pd_int)) (pds_cons (pd_bin g_mul (pd_ix (pd_var 0) pd_int) (pd_ix (pd_var 1) pd_int)) pds_nil)))))
theorem sc_is_small : FnScope ["number"] ["number"] (defScope st_is_small) := ⟨rfl, rfl, rfl, by decide +kernel, rfl, by decide +kernel, by decide +kernel⟩
theorem ok_is_small (T : Txt K mg) : Fn P w K mg base "is_small" 1 1 m_is_small := fn_mk (N := ["number"]) (ps := ["number"]) (r := b_is_small) T.d_is_small sc_is_small fun f cdv A outer s H E en tk =>
  have nd := sc_is_small.nd
  (psds_one (psd_ret (pd_chain2 (g_leU en.u64) (g_leU en.u64) (pd_bin g_sub pd_int (pd_giE T.g_GREATEST)) (pd_var 0) (pd_giE T.g_GREATEST)).1))
theorem sc_pairs_of : FnScope ["found", "pairs", "key", "share"] ["found"] (defScope st_pairs_of) := ⟨rfl, rfl, rfl, by decide +kernel, rfl, by decide +kernel, by decide +kernel⟩
theorem ok_pairs_of (T : Txt K mg) : Fn P w K mg base "pairs_of" 1 2 m_pairs_of := fn_mk (N := ["found", "pairs", "key", "share"]) (ps := ["found"]) (r := b_pairs_of) T.d_pairs_of sc_pairs_of fun f cdv A outer s H E en tk =>
  have nd := sc_pairs_of.nd
  (psds_cons (psd_lock 0 (psd_asg (pd_callT (hv := bv_tuple) b_tuple T.n_tuple (pds_cons (pd_keep (pf_sorted en.u64 T.n_sorted (pds_cons (pd_keep (pf_lc rfl nd (pid_items (pd_var 0)) (own := [("key", 2), ("share", 3)]) (blkOk_by (by kernel_rfl)) (plc_ifT rfl (fun _ _ _ _ _ => (pgxs_cons (pgx_name 2 nd) (pgxs_cons (pgx_name 3 nd) pgxs_nil))) (fun _ _ _ _ _ => (pb_cmp (g_ne en.u64) (pd_var 3) (pd_lit (T.g_NOUGHT _)) (by rfl))) (fun _ _ _ _ _ => (pd_tup (pds_cons (pd_var 2) (pds_cons (pd_var 3) pds_nil))))))) pds_nil))) pds_nil)) (pgd_name 1 nd).pg))
    (psds_cons (psd_if (pb_w (pw_orD (pb_cmp (g_gtU en.u64) (pd_callB (hv := bv_len) b_len T.n_len (pds_cons (pd_var 1) pds_nil)) (pd_giE T.g_MOST_PAIRS) (by rfl)) (pw_or1D (pb_not (pb_tru (pd_callB (hv := bv_all) (b_all rfl) T.n_all (pds_cons (pd_keep (pf_lc rfl nd (pid_seq (pd_var 1)) (own := [("key", 2), ("share", 3)]) (blkOk_by (by kernel_rfl)) (plc_noT rfl (fun _ _ _ _ _ => (pgxs_cons (pgx_name 2 nd) (pgxs_cons (pgx_name 3 nd) pgxs_nil))) (fun _ _ _ _ _ => (pd_and (pd_fn (ok_is_small T) (en.room.mono (by decide)) en.gu takes0 (pds_cons (pd_ix (pd_var 3) pd_int) pds_nil)) (pd_one (pd_fn (ok_is_small T) (en.room.mono (by decide)) en.gu takes0 (pds_cons (pd_ix (pd_var 3) pd_int) pds_nil)))))))) pds_nil))))))) (psds_one psd_never) psds_nil)
    (psds_one (psd_ret (pd_var 1)))))
theorem sc_plus : FnScope ["one", "other"] ["one", "other"] (defScope st_plus) := ⟨rfl, rfl, rfl, by decide +kernel, rfl, by decide +kernel, by decide +kernel⟩
theorem ok_plus (T : Txt K mg) : Fn P w K mg base "plus" 2 3 m_plus := fn_mk (N := ["one", "other"]) (ps := ["one", "other"]) (r := b_plus) T.d_plus sc_plus fun f cdv A outer s H E en tk =>
  have nd := sc_plus.nd
  (psds_one (psd_ret (pd_fn (ok_fraction T) (en.room.mono (by decide)) en.gu tk (pds_cons (pd_bin g_add (pd_bin g_mul (pd_ix (pd_var 0) pd_int) (pd_ix (pd_var 1) pd_int)) (pd_bin g_mul (pd_ix (pd_var 1) pd_int) (pd_ix (pd_var 0) pd_int))) (pds_cons (pd_bin g_mul (pd_ix (pd_var 0) pd_int) (pd_ix (pd_var 1) pd_int)) pds_nil)))))
theorem sc_added : FnScope ["found", "key", "share"] ["found", "key", "share"] (defScope st_added) := ⟨rfl, rfl, rfl, by decide +kernel, rfl, by decide +kernel, by decide +kernel⟩
theorem ok_added (T : Txt K mg) : Fn P w K mg base "added" 3 4 m_added := fn_mk (N := ["found", "key", "share"]) (ps := ["found", "key", "share"]) (r := b_added) T.d_added sc_added fun f cdv A outer s H E en tk =>
  have nd := sc_added.nd
  (psds_one (psd_putU en.u10 (pd_var 0) (pd_var 1) (pd_fn (ok_plus T) (en.room.mono (by decide)) en.gu tk (pds_cons (pd_get2 en.u10 (pd_var 0) (pd_var 1) (pd_lit (T.g_NOUGHT _))) (pds_cons (pd_var 2) pds_nil)))))
theorem sc_at_count : FnScope ["form", "count", "found", "mono", "place", "base", "share"] ["form", "count"] (defScope st_at_count) := ⟨rfl, rfl, rfl, by decide +kernel, rfl, by decide +kernel, by decide +kernel⟩
theorem ok_at_count (T : Txt K mg) : Fn P w K mg base "at_count" 2 5 m_at_count := fn_mk (N := ["form", "count", "found", "mono", "place", "base", "share"]) (ps := ["form", "count"]) (r := b_at_count) T.d_at_count sc_at_count fun f cdv A outer s H E en tk =>
  have nd := sc_at_count.nd
  (psds_cons (psd_asg (pd_own pf_dnew) (pgd_name 2 nd).pg)
    (psds_cons (psd_for en.hp rfl (pid_seq (pd_var 0)) (pgn_tup rfl (pgds_cons (pgn_tup rfl (pgds_cons (pgd_name 3 nd) (pgds_cons (pgd_name 4 nd) (pgds_cons (pgd_name 5 nd) pgds_nil)))) (pgds_cons (pgd_name 6 nd) pgds_nil))).pg (psds_one (psd_expr (pd_fn (ok_added T) (en.room.mono (by decide)) en.gu tk (pds_cons (pd_var 2) (pds_cons (pd_var 3) (pds_cons (pd_fn (ok_times T) (en.room.mono (by decide)) en.gu tk (pds_cons (pd_var 6) (pds_cons (pd_fn (ok_fraction T) (en.room.mono (by decide)) en.gu tk (pds_cons (pd_fn (ok_term_at T) (en.room.mono (by decide)) en.gu tk (pds_cons (pd_var 4) (pds_cons (pd_var 5) (pds_cons (pd_var 1) pds_nil)))) (pds_cons pd_int pds_nil))) pds_nil))) pds_nil)))))))
    (psds_one (psd_ret (pd_fn (ok_pairs_of T) (en.room.mono (by decide)) en.gu tk (pds_cons (pd_var 2) pds_nil))))))
theorem sc_plain_value : FnScope ["plain", "values", "found", "mono", "share", "own", "box", "power"] ["plain", "values"] (defScope st_plain_value) := ⟨rfl, rfl, rfl, by decide +kernel, rfl, by decide +kernel, by decide +kernel⟩
theorem ok_plain_value (T : Txt K mg) : Fn P w K mg base "plain_value" 2 4 m_plain_value := fn_mk (N := ["plain", "values", "found", "mono", "share", "own", "box", "power"]) (ps := ["plain", "values"]) (r := b_plain_value) T.d_plain_value sc_plain_value fun f cdv A outer s H E en tk =>
  have nd := sc_plain_value.nd
  (psds_cons (psd_asg (pd_lit (T.g_NOUGHT _)) (pgd_name 2 nd).pg)
    (psds_cons (psd_for en.hp rfl (pid_seq (pd_var 0)) (pgn_tup rfl (pgds_cons (pgd_name 3 nd) (pgds_cons (pgd_name 4 nd) pgds_nil))).pg (psds_cons (psd_asg pd_int (pgd_name 5 nd).pg)
    (psds_cons (psd_for en.hp rfl (pid_seq (pd_var 3)) (pgn_tup rfl (pgds_cons (pgd_name 6 nd) (pgds_cons (pgd_name 7 nd) pgds_nil))).pg (psds_one (psd_asg (pd_bin g_mul (pd_var 5) (pd_fn (ok_raised T) (en.room.mono (by decide)) en.gu tk (pds_cons (pd_uget en.u10 (pd_var 1) (pd_var 6)) (pds_cons (pd_var 7) pds_nil)))) (pgd_name 5 nd).pg)))
    (psds_one (psd_asg (pd_fn (ok_plus T) (en.room.mono (by decide)) en.gu tk (pds_cons (pd_var 2) (pds_cons (pd_fn (ok_times T) (en.room.mono (by decide)) en.gu tk (pds_cons (pd_var 4) (pds_cons (pd_fn (ok_fraction T) (en.room.mono (by decide)) en.gu tk (pds_cons (pd_var 5) (pds_cons pd_int pds_nil))) pds_nil))) pds_nil))) (pgd_name 2 nd).pg)))))
    (psds_one (psd_ret (pd_var 2)))))
theorem sc_form_value : FnScope ["form", "values", "count"] ["form", "values", "count"] (defScope st_form_value) := ⟨rfl, rfl, rfl, by decide +kernel, rfl, by decide +kernel, by decide +kernel⟩
theorem ok_form_value (T : Txt K mg) : Fn P w K mg base "form_value" 3 6 m_form_value := fn_mk (N := ["form", "values", "count"]) (ps := ["form", "values", "count"]) (r := b_form_value) T.d_form_value sc_form_value fun f cdv A outer s H E en tk =>
  have nd := sc_form_value.nd
  (psds_one (psd_ret (pd_fn (ok_plain_value T) (en.room.mono (by decide)) en.gu tk (pds_cons (pd_fn (ok_at_count T) (en.room.mono (by decide)) en.gu tk (pds_cons (pd_var 0) (pds_cons (pd_var 2) pds_nil))) (pds_cons (pd_var 1) pds_nil)))))
theorem sc__law_started : FnScope ["_law_script", "_law_cell"] ["_law_script"] (defScope st__law_started) := ⟨rfl, rfl, rfl, by decide +kernel, rfl, by decide +kernel, by decide +kernel⟩
theorem ok__law_started (T : Txt K mg) : Fn P w K mg base "_law_started" 1 1 m__law_started := fn_mkK (N := ["_law_script", "_law_cell"]) (ps := ["_law_script"]) (r := b__law_started) T.d__law_started sc__law_started fun f cdv A outer s H E en tk =>
  have nd := sc__law_started.nd
  (psds_one (psd_ret (pd_own (pf_disp (ppd_cons pd_str (pd_var 0) (ppd_cons pd_str pd_int (ppd_cons pd_str (pd_own (pf_lc rfl nd (pid_seq (pd_var 0)) (own := [("_law_cell", 1)]) (blkOk_by (by kernel_rfl)) (plc_no (fun _ _ _ _ _ => (pgx_name 1 nd)) (fun _ _ _ _ _ => (pd_bin g_mul (pd_var 1) (pd_callT (hv := bv_int) b_int T.n_int (pds_cons (pd_cmp (g_geU en.u64) (pd_var 1) (pd_bin g_pow pd_int pd_int) (by rfl)) pds_nil))))))) ppd_nil)))))))
theorem sc__law_draw : FnScope ["_law_m", "_law_many", "_law_k", "_law_cells", "_law_left", "_law_cell", "_law_number_here"] ["_law_m", "_law_many"] (defScope st__law_draw) := ⟨rfl, rfl, rfl, by decide +kernel, rfl, by decide +kernel, by decide +kernel⟩
theorem ok__law_draw (T : Txt K mg) : Fn P w K mg base "_law_draw" 2 1 m__law_draw := fn_mk (N := ["_law_m", "_law_many", "_law_k", "_law_cells", "_law_left", "_law_cell", "_law_number_here"]) (ps := ["_law_m", "_law_many"]) (r := b__law_draw) T.d__law_draw sc__law_draw fun f cdv A outer s H E en tk =>
  have nd := sc__law_draw.nd
  (psds_cons (psd_asg (pd_uget en.u10 (pd_var 0) pd_str) (pgd_name 2 nd).pg)
    (psds_cons (psd_putU en.u10 (pd_var 0) pd_str (pd_bin g_add (pd_var 2) pd_int))
    (psds_cons (psd_asg (pd_uget en.u10 (pd_var 0) pd_str) (pgd_name 3 nd).pg)
    (psds_cons (psd_asg (pd_if (pb_cmp (g_ne en.u64) (pd_uget en.u10 (pd_var 0) pd_str) (pd_keep (pf_lst pds_nil)) (by rfl)) (pd_ix (pd_uget en.u10 (pd_var 0) pd_str) (pd_bin g_mod (pd_var 2) (pd_callB (hv := bv_len) b_len T.n_len (pds_cons (pd_var 3) pds_nil)))) pd_int) (pgd_name 4 nd).pg)
    (psds_cons (psd_if (pb_cmp (g_gtU en.u64) (pd_var 4) pd_int (by rfl)) (psds_cons (psd_setL (pd_uget en.u10 (pd_var 0) pd_str) (pd_bin g_mod (pd_var 2) (pd_callB (hv := bv_len) b_len T.n_len (pds_cons (pd_var 3) pds_nil))) (pd_bin g_div (pd_var 4) (pd_var 1)))
    (psds_one (psd_ret (pd_bin g_mod (pd_var 4) (pd_var 1))))) psds_nil)
    (psds_cons (psd_asg (pd_if (pb_cmp (g_ne en.u64) (pd_var 3) (pd_keep (pf_lst pds_nil)) (by rfl)) (pd_ix (pd_var 3) (pd_bin g_mod (pd_var 2) (pd_callB (hv := bv_len) b_len T.n_len (pds_cons (pd_var 3) pds_nil)))) pd_int) (pgd_name 5 nd).pg)
    (psds_cons (psd_asg (pd_bin g_mod (pd_bin g_add (pd_bin g_add (pd_bin g_mul (pd_bin g_mod (pd_var 5) pd_int) pd_int) (pd_bin g_mul (pd_bin g_mul pd_int (pd_var 2)) (pd_var 2))) pd_int) pd_int) (pgd_name 6 nd).pg)
    (psds_cons (psd_asg (pd_bin g_mod (pd_bin g_mul (pd_var 6) (pd_bin g_add pd_int (pd_bin g_mul pd_int (pd_var 2)))) pd_int) (pgd_name 6 nd).pg)
    (psds_one (psd_ret (pd_bin g_mod (pd_bin g_div (pd_bin g_mod (pd_bin g_mul (pd_var 6) (pd_var 6)) pd_int) pd_int) (pd_var 1))))))))))))
theorem sc__law_of : FnScope ["_law_m", "_law_some"] ["_law_m", "_law_some"] (defScope st__law_of) := ⟨rfl, rfl, rfl, by decide +kernel, rfl, by decide +kernel, by decide +kernel⟩
theorem ok__law_of (T : Txt K mg) : Fn P w K mg base "_law_of" 2 2 m__law_of := fn_mk (N := ["_law_m", "_law_some"]) (ps := ["_law_m", "_law_some"]) (r := b__law_of) T.d__law_of sc__law_of fun f cdv A outer s H E en tk =>
  have nd := sc__law_of.nd
  (psds_one (psd_ret (pd_ix (pd_var 1) (pd_fn (ok__law_draw T) (en.room.mono (by decide)) en.gu tk (pds_cons (pd_var 0) (pds_cons (pd_callB (hv := bv_len) b_len T.n_len (pds_cons (pd_var 1) pds_nil)) pds_nil))))))
theorem sc__law_base : FnScope ["_law_m"] ["_law_m"] (defScope st__law_base) := ⟨rfl, rfl, rfl, by decide +kernel, rfl, by decide +kernel, by decide +kernel⟩
theorem ok__law_base (T : Txt K mg) : Fn P w K mg base "_law_base" 1 3 m__law_base := fn_mk (N := ["_law_m"]) (ps := ["_law_m"]) (r := b__law_base) T.d__law_base sc__law_base fun f cdv A outer s H E en tk =>
  have nd := sc__law_base.nd
  (psds_one (psd_ret (pd_fn (ok__law_of T) (en.room.mono (by decide)) en.gu tk (pds_cons (pd_var 0) (pds_cons (pd_keep (pf_lst (pds_cons pd_int (pds_cons pd_int (pds_cons pd_int (pds_cons pd_int (pds_cons (pd_neg pd_int) (pds_cons pd_int (pds_cons (pd_neg pd_int) (pds_cons pd_int (pds_cons (pd_neg pd_int) (pds_cons pd_int (pds_cons (pd_bin g_sub (pd_fn (ok__law_draw T) (en.room.mono (by decide)) en.gu tk (pds_cons (pd_var 0) (pds_cons (pd_bin g_pow pd_int pd_int) pds_nil))) (pd_bin g_pow pd_int pd_int)) pds_nil))))))))))))) pds_nil)))))
theorem sc__law_common : FnScope ["_law_one", "_law_other"] ["_law_one", "_law_other"] (defScope st__law_common) := ⟨rfl, rfl, rfl, by decide +kernel, rfl, by decide +kernel, by decide +kernel⟩
theorem ok__law_common (T : Txt K mg) : Fn P w K mg base "_law_common" 2 1 m__law_common := fn_mk (N := ["_law_one", "_law_other"]) (ps := ["_law_one", "_law_other"]) (r := b__law_common) T.d__law_common sc__law_common fun f cdv A outer s H E en tk =>
  have nd := sc__law_common.nd
  (psds_cons (psd_while fuel__law_common_0 en.hp (pb_cmp (g_gtU en.u64) (pd_var 1) pd_int (by rfl)) (psds_one (psd_par rfl nd (pds_cons (pd_var 1) (pds_cons (pd_bin g_mod (pd_var 0) (pd_var 1)) pds_nil)))))
    (psds_one (psd_ret (pd_var 0))))
theorem sc__law_share : FnScope ["_law_above", "_law_below", "_law_part"] ["_law_above", "_law_below"] (defScope st__law_share) := ⟨rfl, rfl, rfl, by decide +kernel, rfl, by decide +kernel, by decide +kernel⟩
theorem ok__law_share (T : Txt K mg) : Fn P w K mg base "_law_share" 2 2 m__law_share := fn_mk (N := ["_law_above", "_law_below", "_law_part"]) (ps := ["_law_above", "_law_below"]) (r := b__law_share) T.d__law_share sc__law_share fun f cdv A outer s H E en tk =>
  have nd := sc__law_share.nd
  (psds_cons (psd_asg (pd_fn (ok__law_common T) (en.room.mono (by decide)) en.gu tk (pds_cons (pd_callB (hv := bv_abs) b_abs T.n_abs (pds_cons (pd_var 0) pds_nil)) (pds_cons (pd_var 1) pds_nil))) (pgd_name 2 nd).pg)
    (psds_one (psd_ret (pd_tup (pds_cons (pd_bin g_div (pd_var 0) (pd_var 2)) (pds_cons (pd_bin g_div (pd_var 1) (pd_var 2)) pds_nil))))))
theorem sc__law_pairs : FnScope ["_law_found", "_law_key", "_law_share_here"] ["_law_found"] (defScope st__law_pairs) := ⟨rfl, rfl, rfl, by decide +kernel, rfl, by decide +kernel, by decide +kernel⟩
theorem ok__law_pairs (T : Txt K mg) : Fn P w K mg base "_law_pairs" 1 1 m__law_pairs := fn_mk (N := ["_law_found", "_law_key", "_law_share_here"]) (ps := ["_law_found"]) (r := b__law_pairs) T.d__law_pairs sc__law_pairs fun f cdv A outer s H E en tk =>
  have nd := sc__law_pairs.nd
  (psds_one (psd_lock 0 (psd_ret (pd_callT (hv := bv_tuple) b_tuple T.n_tuple (pds_cons (pd_keep (pf_sorted en.u64 T.n_sorted (pds_cons (pd_keep (pf_lc rfl nd (pid_items (pd_var 0)) (own := [("_law_key", 1), ("_law_share_here", 2)]) (blkOk_by (by kernel_rfl)) (plc_ifT rfl (fun _ _ _ _ _ => (pgxs_cons (pgx_name 1 nd) (pgxs_cons (pgx_name 2 nd) pgxs_nil))) (fun _ _ _ _ _ => (pb_cmp (g_ne en.u64) (pd_ix (pd_var 2) pd_int) pd_int (by rfl))) (fun _ _ _ _ _ => (pd_tup (pds_cons (pd_var 1) (pds_cons (pd_var 2) pds_nil))))))) pds_nil))) pds_nil)))))
theorem sc__law_mono : FnScope ["_law_m", "_law_most", "_law_found", "_law_k", "_law_box"] ["_law_m", "_law_most"] (defScope st__law_mono) := ⟨rfl, rfl, rfl, by decide +kernel, rfl, by decide +kernel, by decide +kernel⟩
theorem ok__law_mono (T : Txt K mg) : Fn P w K mg base "_law_mono" 2 3 m__law_mono := fn_mk (N := ["_law_m", "_law_most", "_law_found", "_law_k", "_law_box"]) (ps := ["_law_m", "_law_most"]) (r := b__law_mono) T.d__law_mono sc__law_mono fun f cdv A outer s H E en tk =>
  have nd := sc__law_mono.nd
  (psds_cons (psd_asg (pd_own pf_dnew) (pgd_name 2 nd).pg)
    (psds_cons (psd_for en.hp rfl (pid_range1 T.n_range (pds_cons (pd_fn (ok__law_draw T) (en.room.mono (by decide)) en.gu tk (pds_cons (pd_var 0) (pds_cons (pd_bin g_add (pd_var 1) pd_int) pds_nil))) pds_nil)) (pgd_name 3 nd).pg (psds_cons (psd_asg (pd_fn (ok__law_of T) (en.room.mono (by decide)) en.gu tk (pds_cons (pd_var 0) (pds_cons (pd_keep (pf_lst (pds_cons pd_str (pds_cons pd_str (pds_cons pd_str (pds_cons pd_str (pds_cons pd_str pds_nil))))))) pds_nil))) (pgd_name 4 nd).pg)
    (psds_one (psd_putU en.u10 (pd_var 2) (pd_var 4) (pd_bin g_add (pd_get2 en.u10 (pd_var 2) (pd_var 4) pd_int) pd_int)))))
    (psds_one (psd_ret (pd_callT (hv := bv_tuple) b_tuple T.n_tuple (pds_cons (pd_keep (pf_sortIt rfl en.u64 T.n_sorted (pd_var 2))) pds_nil))))))
theorem sc__law_number : FnScope ["_law_m", "_law_some", "_law_number_here"] ["_law_m"] (defScope st__law_number) := ⟨rfl, rfl, rfl, by decide +kernel, rfl, by decide +kernel, by decide +kernel⟩
theorem ok__law_number (T : Txt K mg) : Fn P w K mg base "_law_number" 1 3 m__law_number := fn_mk (N := ["_law_m", "_law_some", "_law_number_here"]) (ps := ["_law_m"]) (r := b__law_number) T.d__law_number sc__law_number fun f cdv A outer s H E en tk =>
  have nd := sc__law_number.nd
  (psds_cons (psd_asg (pd_keep (pf_lst (pds_cons pd_int (pds_cons (pd_neg pd_int) (pds_cons pd_int (pds_cons pd_int (pds_cons (pd_neg pd_int) (pds_cons (pd_fn (ok__law_draw T) (en.room.mono (by decide)) en.gu tk (pds_cons (pd_var 0) (pds_cons pd_int pds_nil))) (pds_cons (pd_bin g_sub pd_int (pd_fn (ok__law_draw T) (en.room.mono (by decide)) en.gu tk (pds_cons (pd_var 0) (pds_cons (pd_bin g_pow pd_int pd_int) pds_nil)))) (pds_cons (pd_bin g_add (pd_bin g_pow pd_int pd_int) (pd_fn (ok__law_draw T) (en.room.mono (by decide)) en.gu tk (pds_cons (pd_var 0) (pds_cons (pd_bin g_pow pd_int pd_int) pds_nil)))) pds_nil)))))))))) (pgd_name 1 nd).pg)
    (psds_cons (psd_asg (pd_fn (ok__law_of T) (en.room.mono (by decide)) en.gu tk (pds_cons (pd_var 0) (pds_cons (pd_var 1) pds_nil))) (pgd_name 2 nd).pg)
    (psds_one (psd_ret (pd_if (pb_cmp (g_ne en.u64) (pd_var 2) pd_int (by rfl)) (pd_var 2) pd_int)))))
theorem sc__law_form : FnScope ["_law_m", "_law_many", "_law_most", "_law_found", "_law_k", "_law_kind"] ["_law_m", "_law_many", "_law_most"] (defScope st__law_form) := ⟨rfl, rfl, rfl, by decide +kernel, rfl, by decide +kernel, by decide +kernel⟩
theorem ok__law_form (T : Txt K mg) : Fn P w K mg base "_law_form" 3 4 m__law_form := fn_mk (N := ["_law_m", "_law_many", "_law_most", "_law_found", "_law_k", "_law_kind"]) (ps := ["_law_m", "_law_many", "_law_most"]) (r := b__law_form) T.d__law_form sc__law_form fun f cdv A outer s H E en tk =>
  have nd := sc__law_form.nd
  (psds_cons (psd_asg (pd_own pf_dnew) (pgd_name 3 nd).pg)
    (psds_cons (psd_for en.hp rfl (pid_range1 T.n_range (pds_cons (pd_fn (ok__law_draw T) (en.room.mono (by decide)) en.gu tk (pds_cons (pd_var 0) (pds_cons (pd_bin g_add (pd_var 1) pd_int) pds_nil))) pds_nil)) (pgd_name 4 nd).pg (psds_cons (psd_asg (pd_tup (pds_cons (pd_fn (ok__law_mono T) (en.room.mono (by decide)) en.gu tk (pds_cons (pd_var 0) (pds_cons (pd_var 2) pds_nil))) (pds_cons (pd_fn (ok__law_of T) (en.room.mono (by decide)) en.gu tk (pds_cons (pd_var 0) (pds_cons (pd_keep (pf_lst (pds_cons pd_int (pds_cons pd_int (pds_cons pd_int (pds_cons pd_int (pds_cons pd_int (pds_cons pd_int (pds_cons pd_int pds_nil))))))))) pds_nil))) (pds_cons (pd_fn (ok__law_base T) (en.room.mono (by decide)) en.gu tk (pds_cons (pd_var 0) pds_nil)) pds_nil)))) (pgd_name 5 nd).pg)
    (psds_one (psd_putU en.u10 (pd_var 3) (pd_var 5) (pd_fn (ok__law_share T) (en.room.mono (by decide)) en.gu tk (pds_cons (pd_fn (ok__law_number T) (en.room.mono (by decide)) en.gu tk (pds_cons (pd_var 0) pds_nil)) (pds_cons (pd_bin g_add pd_int (pd_fn (ok__law_draw T) (en.room.mono (by decide)) en.gu tk (pds_cons (pd_var 0) (pds_cons (pd_fn (ok__law_of T) (en.room.mono (by decide)) en.gu tk (pds_cons (pd_var 0) (pds_cons (pd_keep (pf_lst (pds_cons pd_int (pds_cons pd_int (pds_cons pd_int (pds_cons pd_int pds_nil)))))) pds_nil))) pds_nil)))) pds_nil)))))))
    (psds_one (psd_ret (pd_fn (ok__law_pairs T) (en.room.mono (by decide)) en.gu tk (pds_cons (pd_var 3) pds_nil))))))
theorem sc__law_values : FnScope ["_law_m", "_law_found", "_law_box"] ["_law_m"] (defScope st__law_values) := ⟨rfl, rfl, rfl, by decide +kernel, rfl, by decide +kernel, by decide +kernel⟩
theorem ok__law_values (T : Txt K mg) : Fn P w K mg base "_law_values" 1 3 m__law_values := fn_mkK (N := ["_law_m", "_law_found", "_law_box"]) (ps := ["_law_m"]) (r := b__law_values) T.d__law_values sc__law_values fun f cdv A outer s H E en tk =>
  have nd := sc__law_values.nd
  (psds_cons (psd_asg (pd_own pf_dnew) (pgd_name 1 nd).pg)
    (psds_cons (psd_for en.hp rfl (pid_seq (pd_keep (pf_lst (pds_cons pd_str (pds_cons pd_str (pds_cons pd_str (pds_cons pd_str (pds_cons pd_str pds_nil)))))))) (pgd_name 2 nd).pg (psds_one (psd_putU en.u10 (pd_var 1) (pd_var 2) (pd_fn (ok__law_of T) (en.room.mono (by decide)) en.gu tk (pds_cons (pd_var 0) (pds_cons (pd_keep (pf_lst (pds_cons pd_int (pds_cons pd_int (pds_cons (pd_neg pd_int) (pds_cons (pd_fn (ok__law_draw T) (en.room.mono (by decide)) en.gu tk (pds_cons (pd_var 0) (pds_cons pd_int pds_nil))) (pds_cons (pd_bin g_sub pd_int (pd_fn (ok__law_draw T) (en.room.mono (by decide)) en.gu tk (pds_cons (pd_var 0) (pds_cons pd_int pds_nil)))) (pds_cons (pd_fn (ok__law_draw T) (en.room.mono (by decide)) en.gu tk (pds_cons (pd_var 0) (pds_cons (pd_bin g_pow pd_int pd_int) pds_nil))) pds_nil)))))))) pds_nil))))))
    (psds_one (psd_ret (pd_var 1)))))
theorem sc__law_power : FnScope ["_law_number_here", "_law_often", "_law_found", "_law_turn"] ["_law_number_here", "_law_often"] (defScope st__law_power) := ⟨rfl, rfl, rfl, by decide +kernel, rfl, by decide +kernel, by decide +kernel⟩
theorem ok__law_power (T : Txt K mg) : Fn P w K mg base "_law_power" 2 1 m__law_power := fn_mk (N := ["_law_number_here", "_law_often", "_law_found", "_law_turn"]) (ps := ["_law_number_here", "_law_often"]) (r := b__law_power) T.d__law_power sc__law_power fun f cdv A outer s H E en tk =>
  have nd := sc__law_power.nd
  (psds_cons (psd_asg pd_int (pgd_name 2 nd).pg)
    (psds_cons (psd_for en.hp rfl (pid_range1 T.n_range (pds_cons (pd_var 1) pds_nil)) (pgd_name 3 nd).pg (psds_one (psd_asg (pd_bin g_mul (pd_var 2) (pd_var 0)) (pgd_name 2 nd).pg)))
    (psds_one (psd_ret (pd_var 2)))))
theorem sc__law_term : FnScope ["_law_place", "_law_base_here", "_law_count", "_law_many", "_law_k"] ["_law_place", "_law_base_here", "_law_count"] (defScope st__law_term) := ⟨rfl, rfl, rfl, by decide +kernel, rfl, by decide +kernel, by decide +kernel⟩
theorem ok__law_term (T : Txt K mg) : Fn P w K mg base "_law_term" 3 2 m__law_term := fn_mk (N := ["_law_place", "_law_base_here", "_law_count", "_law_many", "_law_k"]) (ps := ["_law_place", "_law_base_here", "_law_count"]) (r := b__law_term) T.d__law_term sc__law_term fun f cdv A outer s H E en tk =>
  have nd := sc__law_term.nd
  (psds_cons (psd_if (pb_cmp (g_ltU en.u64) (pd_var 2) (pd_var 0) (by rfl)) (psds_one (psd_ret pd_int)) psds_nil)
    (psds_cons (psd_asg pd_int (pgd_name 3 nd).pg)
    (psds_cons (psd_for en.hp rfl (pid_range1 T.n_range (pds_cons (pd_var 0) pds_nil)) (pgd_name 4 nd).pg (psds_one (psd_asg (pd_bin g_div (pd_bin g_mul (pd_var 3) (pd_bin g_sub (pd_var 2) (pd_var 4))) (pd_bin g_add (pd_var 4) pd_int)) (pgd_name 3 nd).pg)))
    (psds_one (psd_ret (pd_bin g_mul (pd_var 3) (pd_fn (ok__law_power T) (en.room.mono (by decide)) en.gu tk (pds_cons (pd_var 1) (pds_cons (pd_bin g_sub (pd_var 2) (pd_var 0)) pds_nil)))))))))
theorem sc__law_plus : FnScope ["_law_one", "_law_other"] ["_law_one", "_law_other"] (defScope st__law_plus) := ⟨rfl, rfl, rfl, by decide +kernel, rfl, by decide +kernel, by decide +kernel⟩
theorem ok__law_plus (T : Txt K mg) : Fn P w K mg base "_law_plus" 2 3 m__law_plus := fn_mk (N := ["_law_one", "_law_other"]) (ps := ["_law_one", "_law_other"]) (r := b__law_plus) T.d__law_plus sc__law_plus fun f cdv A outer s H E en tk =>
  have nd := sc__law_plus.nd
  (psds_one (psd_ret (pd_fn (ok__law_share T) (en.room.mono (by decide)) en.gu tk (pds_cons (pd_bin g_add (pd_bin g_mul (pd_ix (pd_var 0) pd_int) (pd_ix (pd_var 1) pd_int)) (pd_bin g_mul (pd_ix (pd_var 1) pd_int) (pd_ix (pd_var 0) pd_int))) (pds_cons (pd_bin g_mul (pd_ix (pd_var 0) pd_int) (pd_ix (pd_var 1) pd_int)) pds_nil)))))
theorem sc__law_put : FnScope ["_law_found", "_law_key", "_law_share_here"] ["_law_found", "_law_key", "_law_share_here"] (defScope st__law_put) := ⟨rfl, rfl, rfl, by decide +kernel, rfl, by decide +kernel, by decide +kernel⟩
theorem ok__law_put (T : Txt K mg) : Fn P w K mg base "_law_put" 3 4 m__law_put := fn_mk (N := ["_law_found", "_law_key", "_law_share_here"]) (ps := ["_law_found", "_law_key", "_law_share_here"]) (r := b__law_put) T.d__law_put sc__law_put fun f cdv A outer s H E en tk =>
  have nd := sc__law_put.nd
  (psds_one (psd_putU en.u10 (pd_var 0) (pd_var 1) (pd_fn (ok__law_plus T) (en.room.mono (by decide)) en.gu tk (pds_cons (pd_get2 en.u10 (pd_var 0) (pd_var 1) (pd_tup (pds_cons pd_int (pds_cons pd_int pds_nil)))) (pds_cons (pd_var 2) pds_nil)))))
theorem sc__law_at : FnScope ["_law_form_here", "_law_count", "_law_found", "_law_mono_here", "_law_place", "_law_base_here", "_law_share_here"] ["_law_form_here", "_law_count"] (defScope st__law_at) := ⟨rfl, rfl, rfl, by decide +kernel, rfl, by decide +kernel, by decide +kernel⟩
theorem ok__law_at (T : Txt K mg) : Fn P w K mg base "_law_at" 2 5 m__law_at := fn_mk (N := ["_law_form_here", "_law_count", "_law_found", "_law_mono_here", "_law_place", "_law_base_here", "_law_share_here"]) (ps := ["_law_form_here", "_law_count"]) (r := b__law_at) T.d__law_at sc__law_at fun f cdv A outer s H E en tk =>
  have nd := sc__law_at.nd
  (psds_cons (psd_asg (pd_own pf_dnew) (pgd_name 2 nd).pg)
    (psds_cons (psd_for en.hp rfl (pid_seq (pd_var 0)) (pgn_tup rfl (pgds_cons (pgn_tup rfl (pgds_cons (pgd_name 3 nd) (pgds_cons (pgd_name 4 nd) (pgds_cons (pgd_name 5 nd) pgds_nil)))) (pgds_cons (pgd_name 6 nd) pgds_nil))).pg (psds_one (psd_expr (pd_fn (ok__law_put T) (en.room.mono (by decide)) en.gu tk (pds_cons (pd_var 2) (pds_cons (pd_var 3) (pds_cons (pd_fn (ok__law_share T) (en.room.mono (by decide)) en.gu tk (pds_cons (pd_bin g_mul (pd_ix (pd_var 6) pd_int) (pd_fn (ok__law_term T) (en.room.mono (by decide)) en.gu tk (pds_cons (pd_var 4) (pds_cons (pd_var 5) (pds_cons (pd_var 1) pds_nil))))) (pds_cons (pd_ix (pd_var 6) pd_int) pds_nil))) pds_nil)))))))
    (psds_one (psd_ret (pd_fn (ok__law_pairs T) (en.room.mono (by decide)) en.gu tk (pds_cons (pd_var 2) pds_nil))))))
theorem sc__law_worth : FnScope ["_law_plain", "_law_values_here", "_law_found", "_law_mono_here", "_law_share_here", "_law_own", "_law_box", "_law_power_here"] ["_law_plain", "_law_values_here"] (defScope st__law_worth) := ⟨rfl, rfl, rfl, by decide +kernel, rfl, by decide +kernel, by decide +kernel⟩
theorem ok__law_worth (T : Txt K mg) : Fn P w K mg base "_law_worth" 2 4 m__law_worth := fn_mk (N := ["_law_plain", "_law_values_here", "_law_found", "_law_mono_here", "_law_share_here", "_law_own", "_law_box", "_law_power_here"]) (ps := ["_law_plain", "_law_values_here"]) (r := b__law_worth) T.d__law_worth sc__law_worth fun f cdv A outer s H E en tk =>
  have nd := sc__law_worth.nd
  (psds_cons (psd_asg (pd_tup (pds_cons pd_int (pds_cons pd_int pds_nil))) (pgd_name 2 nd).pg)
    (psds_cons (psd_for en.hp rfl (pid_seq (pd_var 0)) (pgn_tup rfl (pgds_cons (pgd_name 3 nd) (pgds_cons (pgd_name 4 nd) pgds_nil))).pg (psds_cons (psd_asg pd_int (pgd_name 5 nd).pg)
    (psds_cons (psd_for en.hp rfl (pid_seq (pd_var 3)) (pgn_tup rfl (pgds_cons (pgd_name 6 nd) (pgds_cons (pgd_name 7 nd) pgds_nil))).pg (psds_one (psd_asg (pd_bin g_mul (pd_var 5) (pd_fn (ok__law_power T) (en.room.mono (by decide)) en.gu tk (pds_cons (pd_uget en.u10 (pd_var 1) (pd_var 6)) (pds_cons (pd_var 7) pds_nil)))) (pgd_name 5 nd).pg)))
    (psds_one (psd_asg (pd_fn (ok__law_plus T) (en.room.mono (by decide)) en.gu tk (pds_cons (pd_var 2) (pds_cons (pd_fn (ok__law_share T) (en.room.mono (by decide)) en.gu tk (pds_cons (pd_bin g_mul (pd_ix (pd_var 4) pd_int) (pd_var 5)) (pds_cons (pd_ix (pd_var 4) pd_int) pds_nil))) pds_nil))) (pgd_name 2 nd).pg)))))
    (psds_one (psd_ret (pd_var 2)))))
theorem sc__law_great_right : FnScope ["_law_m", "_law_plain", "_law_values_here", "_law_far", "_law_some", "_law_place", "_law_base_here", "_law_form_here", "_law_count"] ["_law_m"] (defScope st__law_great_right) := ⟨rfl, rfl, rfl, by decide +kernel, rfl, by decide +kernel, by decide +kernel⟩
theorem ok__law_great_right (T : Txt K mg) : Fn P w K mg base "_law_great_right" 1 6 m__law_great_right := fn_mk (N := ["_law_m", "_law_plain", "_law_values_here", "_law_far", "_law_some", "_law_place", "_law_base_here", "_law_form_here", "_law_count"]) (ps := ["_law_m"]) (r := b__law_great_right) T.d__law_great_right sc__law_great_right fun f cdv A outer s H E en tk =>
  have nd := sc__law_great_right.nd
  (psds_cons (psd_asg (pd_tup (pds_cons (pd_tup (pds_cons (pd_tup (pds_cons (pd_tup (pds_cons pd_str (pds_cons pd_int pds_nil))) (pds_cons (pd_tup (pds_cons pd_str (pds_cons pd_int pds_nil))) pds_nil))) (pds_cons (pd_tup (pds_cons pd_int (pds_cons pd_int pds_nil))) pds_nil))) (pds_cons (pd_tup (pds_cons (pd_tup (pds_cons (pd_tup (pds_cons pd_str (pds_cons pd_int pds_nil))) pds_nil)) (pds_cons (pd_tup (pds_cons (pd_neg pd_int) (pds_cons pd_int pds_nil))) pds_nil))) pds_nil))) (pgd_name 1 nd).pg)
    (psds_cons (psd_asg (pd_own (pf_disp (ppd_cons pd_str (pd_bin g_add pd_int (pd_fn (ok__law_draw T) (en.room.mono (by decide)) en.gu tk (pds_cons (pd_var 0) (pds_cons pd_int pds_nil)))) (ppd_cons pd_str (pd_bin g_add pd_int (pd_fn (ok__law_draw T) (en.room.mono (by decide)) en.gu tk (pds_cons (pd_var 0) (pds_cons pd_int pds_nil)))) ppd_nil)))) (pgd_name 2 nd).pg)
    (psds_cons (psd_asg (pd_own (pf_disp (ppd_cons pd_str (pd_bin g_sub pd_int (pd_bin g_pow (pd_bin g_pow pd_int pd_int) pd_int)) (ppd_cons pd_str (pd_bin g_add (pd_bin g_pow (pd_bin g_pow pd_int pd_int) pd_int) (pd_fn (ok__law_draw T) (en.room.mono (by decide)) en.gu tk (pds_cons (pd_var 0) (pds_cons pd_int pds_nil)))) ppd_nil)))) (pgd_name 3 nd).pg)
    (psds_cons (psd_for en.hp rfl (pid_seq (pd_tup (pds_cons (pd_var 2) (pds_cons (pd_var 3) pds_nil)))) (pgd_name 4 nd).pg (psds_one (psd_if (pb_cmp (g_ne en.u64) (pd_callB (hv := bv_repr) (b_reprW en.gu en.u80 T.dig) T.n_repr (pds_cons (pd_fn (ok_plain_value T) (en.room.mono (by decide)) en.gu tk (pds_cons (pd_var 1) (pds_cons (pd_var 4) pds_nil))) pds_nil)) (pd_callB (hv := bv_repr) (b_reprW en.gu en.u80 T.dig) T.n_repr (pds_cons (pd_fn (ok__law_worth T) (en.room.mono (by decide)) en.gu tk (pds_cons (pd_var 1) (pds_cons (pd_var 4) pds_nil))) pds_nil)) (by rfl)) (psds_one (psd_ret pd_bl)) psds_nil)))
    (psds_cons (psd_par rfl nd (pds_cons (pd_fn (ok__law_of T) (en.room.mono (by decide)) en.gu tk (pds_cons (pd_var 0) (pds_cons (pd_keep (pf_lst (pds_cons pd_int (pds_cons pd_int (pds_cons pd_int pds_nil))))) pds_nil))) (pds_cons (pd_fn (ok__law_base T) (en.room.mono (by decide)) en.gu tk (pds_cons (pd_var 0) pds_nil)) pds_nil)))
    (psds_cons (psd_asg (pd_tup (pds_cons (pd_tup (pds_cons (pd_tup (pds_cons (pd_tup (pds_cons (pd_tup (pds_cons pd_str (pds_cons pd_int pds_nil))) pds_nil)) (pds_cons (pd_var 5) (pds_cons (pd_var 6) pds_nil)))) (pds_cons (pd_tup (pds_cons pd_int (pds_cons pd_int pds_nil))) pds_nil))) pds_nil)) (pgd_name 7 nd).pg)
    (psds_cons (psd_for en.hp rfl (pid_seq (pd_tup (pds_cons (pd_bin g_sub (pd_var 5) pd_int) (pds_cons (pd_var 5) (pds_cons (pd_bin g_add (pd_var 5) pd_int) (pds_cons pd_int pds_nil)))))) (pgd_name 8 nd).pg (psds_cons (psd_if (pb_cmp (g_ne en.u64) (pd_callB (hv := bv_repr) (b_reprW en.gu en.u80 T.dig) T.n_repr (pds_cons (pd_fn (ok_term_at T) (en.room.mono (by decide)) en.gu tk (pds_cons (pd_var 5) (pds_cons (pd_var 6) (pds_cons (pd_var 8) pds_nil)))) pds_nil)) (pd_callB (hv := bv_repr) (b_reprW en.gu en.u80 T.dig) T.n_repr (pds_cons (pd_fn (ok__law_term T) (en.room.mono (by decide)) en.gu tk (pds_cons (pd_var 5) (pds_cons (pd_var 6) (pds_cons (pd_var 8) pds_nil)))) pds_nil)) (by rfl)) (psds_one (psd_ret pd_bl)) psds_nil)
    (psds_one (psd_if (pb_cmp (g_ne en.u64) (pd_callB (hv := bv_repr) (b_reprW en.gu en.u80 T.dig) T.n_repr (pds_cons (pd_fn (ok_at_count T) (en.room.mono (by decide)) en.gu tk (pds_cons (pd_var 7) (pds_cons (pd_var 8) pds_nil))) pds_nil)) (pd_callB (hv := bv_repr) (b_reprW en.gu en.u80 T.dig) T.n_repr (pds_cons (pd_fn (ok__law_at T) (en.room.mono (by decide)) en.gu tk (pds_cons (pd_var 7) (pds_cons (pd_var 8) pds_nil))) pds_nil)) (by rfl)) (psds_one (psd_ret pd_bl)) psds_nil))))
    (psds_one (psd_ret pd_bl)))))))))
theorem sc_law : FnScope ["_law_script", "_law_m", "_law_k", "_law_form_here", "_law_values_here", "_law_names", "_law_kind", "_law_share_here", "_law_count", "_law_place", "_law_base_here", "_law_due", "_law_handed", "_law_worth_here"] ["_law_script"] (defScope st_law) := ⟨rfl, rfl, rfl, by decide +kernel, rfl, by decide +kernel, by decide +kernel⟩
theorem ok_law (T : Txt K mg) : Fn P w K mg base "law" 1 7 m_law := fn_mk (N := ["_law_script", "_law_m", "_law_k", "_law_form_here", "_law_values_here", "_law_names", "_law_kind", "_law_share_here", "_law_count", "_law_place", "_law_base_here", "_law_due", "_law_handed", "_law_worth_here"]) (ps := ["_law_script"]) (r := b_law) T.d_law sc_law fun f cdv A outer s H E en tk =>
  have nd := sc_law.nd
  (psds_cons (psd_asg (pd_fn (ok__law_started T) (en.room.mono (by decide)) en.gu tk (pds_cons (pd_var 0) pds_nil)) (pgd_name 1 nd).pg)
    (psds_cons (psd_for en.hp rfl (pid_range1 T.n_range (pds_cons (pd_callB (hv := bv_max) (b_max rfl) T.n_max (pds_cons pd_int (pds_cons (pd_callB (hv := bv_min) (b_min rfl) T.n_min (pds_cons pd_int (pds_cons (pd_callB (hv := bv_len) b_len T.n_len (pds_cons (pd_var 0) pds_nil)) pds_nil))) pds_nil))) pds_nil)) (pgd_name 2 nd).pg (psds_cons (psd_asg (pd_fn (ok__law_form T) (en.room.mono (by decide)) en.gu tk (pds_cons (pd_var 1) (pds_cons pd_int (pds_cons pd_int pds_nil)))) (pgd_name 3 nd).pg)
    (psds_cons (psd_asg (pd_fn (ok__law_values T) (en.room.mono (by decide)) en.gu tk (pds_cons (pd_var 1) pds_nil)) (pgd_name 4 nd).pg)
    (psds_cons (psd_asg (pd_own pf_dnew) (pgd_name 5 nd).pg)
    (psds_cons (psd_for en.hp rfl (pid_seq (pd_var 3)) (pgn_tup rfl (pgds_cons (pgd_name 6 nd) (pgds_cons (pgd_name 7 nd) pgds_nil))).pg (psds_one (psd_expr (pd_upd (pd_var 5) (pd_own (pf_dict rfl en.u12 T.n_dict (pds_cons (pd_ix (pd_var 6) pd_int) pds_nil)))))))
    (psds_cons (psd_if (pb_cmp (g_ne en.u64) (pd_callB (hv := bv_repr) (b_reprW en.gu en.u80 T.dig) T.n_repr (pds_cons (pd_fn (ok_boxes_in T) (en.room.mono (by decide)) en.gu tk (pds_cons (pd_var 3) pds_nil)) pds_nil)) (pd_callB (hv := bv_repr) (b_reprW en.gu en.u80 T.dig) T.n_repr (pds_cons (pd_keep (pf_sortKeys rfl T.n_sorted (pds_cons (pd_var 5) pds_nil))) pds_nil)) (by rfl)) (psds_one (psd_ret pd_bl)) psds_nil)
    (psds_one (psd_for en.hp rfl (pid_seq (pd_keep (pf_cat (pd_keep (pf_listRange rfl T.n_list T.n_range pd_int)) (pd_keep (pf_lst (pds_cons (pd_bin g_add pd_int (pd_fn (ok__law_draw T) (en.room.mono (by decide)) en.gu tk (pds_cons (pd_var 1) (pds_cons pd_int pds_nil)))) pds_nil)))))) (pgd_name 8 nd).pg (psds_cons (psd_par rfl nd (pds_cons (pd_fn (ok__law_draw T) (en.room.mono (by decide)) en.gu tk (pds_cons (pd_var 1) (pds_cons pd_int pds_nil))) (pds_cons (pd_fn (ok__law_base T) (en.room.mono (by decide)) en.gu tk (pds_cons (pd_var 1) pds_nil)) pds_nil)))
    (psds_cons (psd_if (pb_cmp (g_ne en.u64) (pd_callB (hv := bv_repr) (b_reprW en.gu en.u80 T.dig) T.n_repr (pds_cons (pd_fn (ok_term_at T) (en.room.mono (by decide)) en.gu tk (pds_cons (pd_var 9) (pds_cons (pd_var 10) (pds_cons (pd_var 8) pds_nil)))) pds_nil)) (pd_callB (hv := bv_repr) (b_reprW en.gu en.u80 T.dig) T.n_repr (pds_cons (pd_fn (ok__law_term T) (en.room.mono (by decide)) en.gu tk (pds_cons (pd_var 9) (pds_cons (pd_var 10) (pds_cons (pd_var 8) pds_nil)))) pds_nil)) (by rfl)) (psds_one (psd_ret pd_bl)) psds_nil)
    (psds_cons (psd_asg (pd_fn (ok__law_at T) (en.room.mono (by decide)) en.gu tk (pds_cons (pd_var 3) (pds_cons (pd_var 8) pds_nil))) (pgd_name 11 nd).pg)
    (psds_cons (psd_if (pb_cmp (g_ne en.u64) (pd_callB (hv := bv_repr) (b_reprW en.gu en.u80 T.dig) T.n_repr (pds_cons (pd_fn (ok_at_count T) (en.room.mono (by decide)) en.gu tk (pds_cons (pd_var 3) (pds_cons (pd_var 8) pds_nil))) pds_nil)) (pd_callB (hv := bv_repr) (b_reprW en.gu en.u80 T.dig) T.n_repr (pds_cons (pd_var 11) pds_nil)) (by rfl)) (psds_one (psd_ret pd_bl)) psds_nil)
    (psds_cons (psd_par rfl nd (pds_cons (pd_own (pf_dict rfl en.u12 T.n_dict (pds_cons (pd_var 4) pds_nil))) (pds_cons (pd_fn (ok__law_worth T) (en.room.mono (by decide)) en.gu tk (pds_cons (pd_var 11) (pds_cons (pd_var 4) pds_nil))) pds_nil)))
    (psds_cons (psd_if (pb_w (pw_orD (pb_cmp (g_ne en.u64) (pd_callB (hv := bv_repr) (b_reprW en.gu en.u80 T.dig) T.n_repr (pds_cons (pd_fn (ok_form_value T) (en.room.mono (by decide)) en.gu tk (pds_cons (pd_var 3) (pds_cons (pd_var 12) (pds_cons (pd_var 8) pds_nil)))) pds_nil)) (pd_callB (hv := bv_repr) (b_reprW en.gu en.u80 T.dig) T.n_repr (pds_cons (pd_var 13) pds_nil)) (by rfl)) (pw_or1D (pb_cmp (g_neD en.u64) (pd_var 12) (pd_var 4) (by rfl))))) (psds_one (psd_ret pd_bl)) psds_nil)
    (psds_one (psd_if (pb_w (pw_orD (pb_cmp (g_ne en.u64) (pd_callB (hv := bv_repr) (b_reprW en.gu en.u80 T.dig) T.n_repr (pds_cons (pd_fn (ok_plain_value T) (en.room.mono (by decide)) en.gu tk (pds_cons (pd_var 11) (pds_cons (pd_var 12) pds_nil))) pds_nil)) (pd_callB (hv := bv_repr) (b_reprW en.gu en.u80 T.dig) T.n_repr (pds_cons (pd_var 13) pds_nil)) (by rfl)) (pw_or1D (pb_cmp (g_neD en.u64) (pd_var 12) (pd_var 4) (by rfl))))) (psds_one (psd_ret pd_bl)) psds_nil))))))))))))))))
    (psds_one (psd_ret (pd_fn (ok__law_great_right T) (en.room.mono (by decide)) en.gu tk (pds_cons (pd_var 1) pds_nil))))))
end
/-! the head -/
def dd_boxes_in : He.DefD := ⟨("boxes_in", none), "boxes_in", "boxes_in", defArgs st_boxes_in, defBody st_boxes_in, defScope st_boxes_in, [], []⟩
def dd_choose : He.DefD := ⟨("choose", none), "choose", "choose", defArgs st_choose, defBody st_choose, defScope st_choose, [], []⟩
def dd_raised : He.DefD := ⟨("raised", none), "raised", "raised", defArgs st_raised, defBody st_raised, defScope st_raised, [], []⟩
def dd_term_at : He.DefD := ⟨("term_at", none), "term_at", "term_at", defArgs st_term_at, defBody st_term_at, defScope st_term_at, [], []⟩
def dd_common_divisor : He.DefD := ⟨("common_divisor", none), "common_divisor", "common_divisor", defArgs st_common_divisor, defBody st_common_divisor, defScope st_common_divisor, [], []⟩
def dd_fraction : He.DefD := ⟨("fraction", none), "fraction", "fraction", defArgs st_fraction, defBody st_fraction, defScope st_fraction, [], []⟩
def dd_times : He.DefD := ⟨("times", none), "times", "times", defArgs st_times, defBody st_times, defScope st_times, [], []⟩
def dd_is_small : He.DefD := ⟨("is_small", none), "is_small", "is_small", defArgs st_is_small, defBody st_is_small, defScope st_is_small, [], []⟩
def dd_pairs_of : He.DefD := ⟨("pairs_of", none), "pairs_of", "pairs_of", defArgs st_pairs_of, defBody st_pairs_of, defScope st_pairs_of, [], []⟩
def dd_plus : He.DefD := ⟨("plus", none), "plus", "plus", defArgs st_plus, defBody st_plus, defScope st_plus, [], []⟩
def dd_added : He.DefD := ⟨("added", none), "added", "added", defArgs st_added, defBody st_added, defScope st_added, [], []⟩
def dd_at_count : He.DefD := ⟨("at_count", none), "at_count", "at_count", defArgs st_at_count, defBody st_at_count, defScope st_at_count, [], []⟩
def dd_plain_value : He.DefD := ⟨("plain_value", none), "plain_value", "plain_value", defArgs st_plain_value, defBody st_plain_value, defScope st_plain_value, [], []⟩
def dd_form_value : He.DefD := ⟨("form_value", none), "form_value", "form_value", defArgs st_form_value, defBody st_form_value, defScope st_form_value, [], []⟩
def dd__law_started : He.DefD := ⟨("_law_started", none), "_law_started", "_law_started", defArgs st__law_started, defBody st__law_started, defScope st__law_started, [], []⟩
def dd__law_draw : He.DefD := ⟨("_law_draw", none), "_law_draw", "_law_draw", defArgs st__law_draw, defBody st__law_draw, defScope st__law_draw, [], []⟩
def dd__law_of : He.DefD := ⟨("_law_of", none), "_law_of", "_law_of", defArgs st__law_of, defBody st__law_of, defScope st__law_of, [], []⟩
def dd__law_base : He.DefD := ⟨("_law_base", none), "_law_base", "_law_base", defArgs st__law_base, defBody st__law_base, defScope st__law_base, [], []⟩
def dd__law_common : He.DefD := ⟨("_law_common", none), "_law_common", "_law_common", defArgs st__law_common, defBody st__law_common, defScope st__law_common, [], []⟩
def dd__law_share : He.DefD := ⟨("_law_share", none), "_law_share", "_law_share", defArgs st__law_share, defBody st__law_share, defScope st__law_share, [], []⟩
def dd__law_pairs : He.DefD := ⟨("_law_pairs", none), "_law_pairs", "_law_pairs", defArgs st__law_pairs, defBody st__law_pairs, defScope st__law_pairs, [], []⟩
def dd__law_mono : He.DefD := ⟨("_law_mono", none), "_law_mono", "_law_mono", defArgs st__law_mono, defBody st__law_mono, defScope st__law_mono, [], []⟩
def dd__law_number : He.DefD := ⟨("_law_number", none), "_law_number", "_law_number", defArgs st__law_number, defBody st__law_number, defScope st__law_number, [], []⟩
def dd__law_form : He.DefD := ⟨("_law_form", none), "_law_form", "_law_form", defArgs st__law_form, defBody st__law_form, defScope st__law_form, [], []⟩
def dd__law_values : He.DefD := ⟨("_law_values", none), "_law_values", "_law_values", defArgs st__law_values, defBody st__law_values, defScope st__law_values, [], []⟩
def dd__law_power : He.DefD := ⟨("_law_power", none), "_law_power", "_law_power", defArgs st__law_power, defBody st__law_power, defScope st__law_power, [], []⟩
def dd__law_term : He.DefD := ⟨("_law_term", none), "_law_term", "_law_term", defArgs st__law_term, defBody st__law_term, defScope st__law_term, [], []⟩
def dd__law_plus : He.DefD := ⟨("_law_plus", none), "_law_plus", "_law_plus", defArgs st__law_plus, defBody st__law_plus, defScope st__law_plus, [], []⟩
def dd__law_put : He.DefD := ⟨("_law_put", none), "_law_put", "_law_put", defArgs st__law_put, defBody st__law_put, defScope st__law_put, [], []⟩
def dd__law_at : He.DefD := ⟨("_law_at", none), "_law_at", "_law_at", defArgs st__law_at, defBody st__law_at, defScope st__law_at, [], []⟩
def dd__law_worth : He.DefD := ⟨("_law_worth", none), "_law_worth", "_law_worth", defArgs st__law_worth, defBody st__law_worth, defScope st__law_worth, [], []⟩
def dd__law_great_right : He.DefD := ⟨("_law_great_right", none), "_law_great_right", "_law_great_right", defArgs st__law_great_right, defBody st__law_great_right, defScope st__law_great_right, [], []⟩
def dd_law : He.DefD := ⟨("law", none), "law", "law", defArgs st_law, defBody st_law, defScope st_law, [], []⟩
def fn : List He.DefD := [dd_boxes_in, dd_choose, dd_raised, dd_term_at, dd_common_divisor, dd_fraction, dd_times, dd_is_small, dd_pairs_of, dd_plus, dd_added, dd_at_count, dd_plain_value, dd_form_value, dd__law_started, dd__law_draw, dd__law_of, dd__law_base, dd__law_common, dd__law_share, dd__law_pairs, dd__law_mono, dd__law_number, dd__law_form, dd__law_values, dd__law_power, dd__law_term, dd__law_plus, dd__law_put, dd__law_at, dd__law_worth, dd__law_great_right, dd_law]
def li : List (Str × D) := [("NOUGHT", (.tup [(.int 0), (.int 1)]))]
def fa : List He.Fa := [.glo "boxes_in", .glo "choose", .glo "raised", .glo "term_at", .glo "common_divisor", .glo "fraction", .glo "times", .glo "is_small", .glo "pairs_of", .glo "plus", .glo "added", .glo "at_count", .glo "plain_value", .glo "form_value", .glo "_law_started", .glo "_law_draw", .glo "_law_of", .glo "_law_base", .glo "_law_common", .glo "_law_share", .glo "_law_pairs", .glo "_law_mono", .glo "_law_number", .glo "_law_form", .glo "_law_values", .glo "_law_power", .glo "_law_term", .glo "_law_plus", .glo "_law_put", .glo "_law_at", .glo "_law_worth", .glo "_law_great_right", .glo "law", .free "abs", .free "all", .free "dict", .free "int", .free "len", .free "list", .free "max", .free "min", .free "range", .free "repr", .free "sorted", .free "tuple", .int "GREATEST" 10000000000000000000000000000000000000000000000000000000000000000000000000000000000000000000000000000000000000000000000000000000000000000000000000000000000000000000000000000000000000000000000000000000000000000000000000000000000000000000000000000000000000000000000000000000000000000000000000000000000000000000000000000000000000000000000000000000000000000000000000000000000000000000000000000000000000000000000000000000000000000000000000000000000000000000000000000000000000000000000000000000000000000000000000000000000000000000000000000000000000000000000000000000000000000000000000000000000000000000000000000000000000000000000000000000000000000000000000000000000000000000000000000000000000000000000000000000000000000000000000000000000000000000000000000000000000000000000000000000000000000000000000000000000000000000000000000000000000000000000000000000000000000000000000000000000000000000000000000000000000000000000000000000000000000000000000000000000000000000000000000000000000000000000000000000000000000, .int "MOST_PAIRS" 1000]
theorem txt {K : Fg} {h : Heap} {mg : Str → Option Value} (X : K.In h) (G : h.Ns mainGlobals mg) (c : He.SaysD fa fn K) (hd : NoDig K) (hl : ∀ (i : Nat) (p : Str × D), li[i]? = some p → litF K p = true) : Txt K mg where
  d_boxes_in := (c.def_ 0 (d := dd_boxes_in) rfl).elim fun fd F => ⟨_, fd, fun_of F, He.glo_ok X G (c.fact 0 (f := .glo "boxes_in") rfl), F.bindsN fun _ _ _ _ _ _ us hl => match us, hl with | [_], _ => rfl⟩
  d_choose := (c.def_ 1 (d := dd_choose) rfl).elim fun fd F => ⟨_, fd, fun_of F, He.glo_ok X G (c.fact 1 (f := .glo "choose") rfl), F.bindsN fun _ _ _ _ _ _ us hl => match us, hl with | [_, _], _ => rfl⟩
  d_raised := (c.def_ 2 (d := dd_raised) rfl).elim fun fd F => ⟨_, fd, fun_of F, He.glo_ok X G (c.fact 2 (f := .glo "raised") rfl), F.bindsN fun _ _ _ _ _ _ us hl => match us, hl with | [_, _], _ => rfl⟩
  d_term_at := (c.def_ 3 (d := dd_term_at) rfl).elim fun fd F => ⟨_, fd, fun_of F, He.glo_ok X G (c.fact 3 (f := .glo "term_at") rfl), F.bindsN fun _ _ _ _ _ _ us hl => match us, hl with | [_, _, _], _ => rfl⟩
  d_common_divisor := (c.def_ 4 (d := dd_common_divisor) rfl).elim fun fd F => ⟨_, fd, fun_of F, He.glo_ok X G (c.fact 4 (f := .glo "common_divisor") rfl), F.bindsN fun _ _ _ _ _ _ us hl => match us, hl with | [_, _], _ => rfl⟩
  d_fraction := (c.def_ 5 (d := dd_fraction) rfl).elim fun fd F => ⟨_, fd, fun_of F, He.glo_ok X G (c.fact 5 (f := .glo "fraction") rfl), F.bindsN fun _ _ _ _ _ _ us hl => match us, hl with | [_, _], _ => rfl⟩
  d_times := (c.def_ 6 (d := dd_times) rfl).elim fun fd F => ⟨_, fd, fun_of F, He.glo_ok X G (c.fact 6 (f := .glo "times") rfl), F.bindsN fun _ _ _ _ _ _ us hl => match us, hl with | [_, _], _ => rfl⟩
  d_is_small := (c.def_ 7 (d := dd_is_small) rfl).elim fun fd F => ⟨_, fd, fun_of F, He.glo_ok X G (c.fact 7 (f := .glo "is_small") rfl), F.bindsN fun _ _ _ _ _ _ us hl => match us, hl with | [_], _ => rfl⟩
  d_pairs_of := (c.def_ 8 (d := dd_pairs_of) rfl).elim fun fd F => ⟨_, fd, fun_of F, He.glo_ok X G (c.fact 8 (f := .glo "pairs_of") rfl), F.bindsN fun _ _ _ _ _ _ us hl => match us, hl with | [_], _ => rfl⟩
  d_plus := (c.def_ 9 (d := dd_plus) rfl).elim fun fd F => ⟨_, fd, fun_of F, He.glo_ok X G (c.fact 9 (f := .glo "plus") rfl), F.bindsN fun _ _ _ _ _ _ us hl => match us, hl with | [_, _], _ => rfl⟩
  d_added := (c.def_ 10 (d := dd_added) rfl).elim fun fd F => ⟨_, fd, fun_of F, He.glo_ok X G (c.fact 10 (f := .glo "added") rfl), F.bindsN fun _ _ _ _ _ _ us hl => match us, hl with | [_, _, _], _ => rfl⟩
  d_at_count := (c.def_ 11 (d := dd_at_count) rfl).elim fun fd F => ⟨_, fd, fun_of F, He.glo_ok X G (c.fact 11 (f := .glo "at_count") rfl), F.bindsN fun _ _ _ _ _ _ us hl => match us, hl with | [_, _], _ => rfl⟩
  d_plain_value := (c.def_ 12 (d := dd_plain_value) rfl).elim fun fd F => ⟨_, fd, fun_of F, He.glo_ok X G (c.fact 12 (f := .glo "plain_value") rfl), F.bindsN fun _ _ _ _ _ _ us hl => match us, hl with | [_, _], _ => rfl⟩
  d_form_value := (c.def_ 13 (d := dd_form_value) rfl).elim fun fd F => ⟨_, fd, fun_of F, He.glo_ok X G (c.fact 13 (f := .glo "form_value") rfl), F.bindsN fun _ _ _ _ _ _ us hl => match us, hl with | [_, _, _], _ => rfl⟩
  d__law_started := (c.def_ 14 (d := dd__law_started) rfl).elim fun fd F => ⟨_, fd, fun_of F, He.glo_ok X G (c.fact 14 (f := .glo "_law_started") rfl), F.bindsN fun _ _ _ _ _ _ us hl => match us, hl with | [_], _ => rfl⟩
  d__law_draw := (c.def_ 15 (d := dd__law_draw) rfl).elim fun fd F => ⟨_, fd, fun_of F, He.glo_ok X G (c.fact 15 (f := .glo "_law_draw") rfl), F.bindsN fun _ _ _ _ _ _ us hl => match us, hl with | [_, _], _ => rfl⟩
  d__law_of := (c.def_ 16 (d := dd__law_of) rfl).elim fun fd F => ⟨_, fd, fun_of F, He.glo_ok X G (c.fact 16 (f := .glo "_law_of") rfl), F.bindsN fun _ _ _ _ _ _ us hl => match us, hl with | [_, _], _ => rfl⟩
  d__law_base := (c.def_ 17 (d := dd__law_base) rfl).elim fun fd F => ⟨_, fd, fun_of F, He.glo_ok X G (c.fact 17 (f := .glo "_law_base") rfl), F.bindsN fun _ _ _ _ _ _ us hl => match us, hl with | [_], _ => rfl⟩
  d__law_common := (c.def_ 18 (d := dd__law_common) rfl).elim fun fd F => ⟨_, fd, fun_of F, He.glo_ok X G (c.fact 18 (f := .glo "_law_common") rfl), F.bindsN fun _ _ _ _ _ _ us hl => match us, hl with | [_, _], _ => rfl⟩
  d__law_share := (c.def_ 19 (d := dd__law_share) rfl).elim fun fd F => ⟨_, fd, fun_of F, He.glo_ok X G (c.fact 19 (f := .glo "_law_share") rfl), F.bindsN fun _ _ _ _ _ _ us hl => match us, hl with | [_, _], _ => rfl⟩
  d__law_pairs := (c.def_ 20 (d := dd__law_pairs) rfl).elim fun fd F => ⟨_, fd, fun_of F, He.glo_ok X G (c.fact 20 (f := .glo "_law_pairs") rfl), F.bindsN fun _ _ _ _ _ _ us hl => match us, hl with | [_], _ => rfl⟩
  d__law_mono := (c.def_ 21 (d := dd__law_mono) rfl).elim fun fd F => ⟨_, fd, fun_of F, He.glo_ok X G (c.fact 21 (f := .glo "_law_mono") rfl), F.bindsN fun _ _ _ _ _ _ us hl => match us, hl with | [_, _], _ => rfl⟩
  d__law_number := (c.def_ 22 (d := dd__law_number) rfl).elim fun fd F => ⟨_, fd, fun_of F, He.glo_ok X G (c.fact 22 (f := .glo "_law_number") rfl), F.bindsN fun _ _ _ _ _ _ us hl => match us, hl with | [_], _ => rfl⟩
  d__law_form := (c.def_ 23 (d := dd__law_form) rfl).elim fun fd F => ⟨_, fd, fun_of F, He.glo_ok X G (c.fact 23 (f := .glo "_law_form") rfl), F.bindsN fun _ _ _ _ _ _ us hl => match us, hl with | [_, _, _], _ => rfl⟩
  d__law_values := (c.def_ 24 (d := dd__law_values) rfl).elim fun fd F => ⟨_, fd, fun_of F, He.glo_ok X G (c.fact 24 (f := .glo "_law_values") rfl), F.bindsN fun _ _ _ _ _ _ us hl => match us, hl with | [_], _ => rfl⟩
  d__law_power := (c.def_ 25 (d := dd__law_power) rfl).elim fun fd F => ⟨_, fd, fun_of F, He.glo_ok X G (c.fact 25 (f := .glo "_law_power") rfl), F.bindsN fun _ _ _ _ _ _ us hl => match us, hl with | [_, _], _ => rfl⟩
  d__law_term := (c.def_ 26 (d := dd__law_term) rfl).elim fun fd F => ⟨_, fd, fun_of F, He.glo_ok X G (c.fact 26 (f := .glo "_law_term") rfl), F.bindsN fun _ _ _ _ _ _ us hl => match us, hl with | [_, _, _], _ => rfl⟩
  d__law_plus := (c.def_ 27 (d := dd__law_plus) rfl).elim fun fd F => ⟨_, fd, fun_of F, He.glo_ok X G (c.fact 27 (f := .glo "_law_plus") rfl), F.bindsN fun _ _ _ _ _ _ us hl => match us, hl with | [_, _], _ => rfl⟩
  d__law_put := (c.def_ 28 (d := dd__law_put) rfl).elim fun fd F => ⟨_, fd, fun_of F, He.glo_ok X G (c.fact 28 (f := .glo "_law_put") rfl), F.bindsN fun _ _ _ _ _ _ us hl => match us, hl with | [_, _, _], _ => rfl⟩
  d__law_at := (c.def_ 29 (d := dd__law_at) rfl).elim fun fd F => ⟨_, fd, fun_of F, He.glo_ok X G (c.fact 29 (f := .glo "_law_at") rfl), F.bindsN fun _ _ _ _ _ _ us hl => match us, hl with | [_, _], _ => rfl⟩
  d__law_worth := (c.def_ 30 (d := dd__law_worth) rfl).elim fun fd F => ⟨_, fd, fun_of F, He.glo_ok X G (c.fact 30 (f := .glo "_law_worth") rfl), F.bindsN fun _ _ _ _ _ _ us hl => match us, hl with | [_, _], _ => rfl⟩
  d__law_great_right := (c.def_ 31 (d := dd__law_great_right) rfl).elim fun fd F => ⟨_, fd, fun_of F, He.glo_ok X G (c.fact 31 (f := .glo "_law_great_right") rfl), F.bindsN fun _ _ _ _ _ _ us hl => match us, hl with | [_], _ => rfl⟩
  d_law := (c.def_ 32 (d := dd_law) rfl).elim fun fd F => ⟨_, fd, fun_of F, He.glo_ok X G (c.fact 32 (f := .glo "law") rfl), F.bindsN fun _ _ _ _ _ _ us hl => match us, hl with | [_], _ => rfl⟩
  n_abs := He.free_ok X G (c.fact 33 (f := .free "abs") rfl)
  n_all := He.free_ok X G (c.fact 34 (f := .free "all") rfl)
  n_dict := He.free_ok X G (c.fact 35 (f := .free "dict") rfl)
  n_int := He.free_ok X G (c.fact 36 (f := .free "int") rfl)
  n_len := He.free_ok X G (c.fact 37 (f := .free "len") rfl)
  n_list := He.free_ok X G (c.fact 38 (f := .free "list") rfl)
  n_max := He.free_ok X G (c.fact 39 (f := .free "max") rfl)
  n_min := He.free_ok X G (c.fact 40 (f := .free "min") rfl)
  n_range := He.free_ok X G (c.fact 41 (f := .free "range") rfl)
  n_repr := He.free_ok X G (c.fact 42 (f := .free "repr") rfl)
  n_sorted := He.free_ok X G (c.fact 43 (f := .free "sorted") rfl)
  n_tuple := He.free_ok X G (c.fact 44 (f := .free "tuple") rfl)
  g_NOUGHT := fun _ => litF_ok X G (hl 0 _ rfl)
  g_GREATEST := He.int_ok X G (c.fact 45 (f := .int "GREATEST" 10000000000000000000000000000000000000000000000000000000000000000000000000000000000000000000000000000000000000000000000000000000000000000000000000000000000000000000000000000000000000000000000000000000000000000000000000000000000000000000000000000000000000000000000000000000000000000000000000000000000000000000000000000000000000000000000000000000000000000000000000000000000000000000000000000000000000000000000000000000000000000000000000000000000000000000000000000000000000000000000000000000000000000000000000000000000000000000000000000000000000000000000000000000000000000000000000000000000000000000000000000000000000000000000000000000000000000000000000000000000000000000000000000000000000000000000000000000000000000000000000000000000000000000000000000000000000000000000000000000000000000000000000000000000000000000000000000000000000000000000000000000000000000000000000000000000000000000000000000000000000000000000000000000000000000000000000000000000000000000000000000000000000000000000000000000000000000) rfl)
  g_MOST_PAIRS := He.int_ok X G (c.fact 46 (f := .int "MOST_PAIRS" 1000) rfl)
  dig := hd
end DL

set_option Elab.async false
set_option linter.all false
set_option maxRecDepth 100000
set_option maxHeartbeats 4000000
set_option autoImplicit false
/-! Typed things as data: their order, sorting. -/
namespace DL
open PySem L2
class Emb (κ : Type) where
  toD : κ → D
  py : κ → PyData
  deg : Nat
  pyOk : ∀ (S : Sto) (a : κ), toPy S (toD a) = some (py a)
  np : ∀ (a : κ) (k : Nat), toD a ≠ .ptr k
  al : ∀ a b : κ, PySem.W.alike (py a) (py b) = true
  dep : ∀ a : κ, (py a).depth ≤ deg
  inj : ∀ a b : κ, PyData.eqv (py a) (py b) = true → a = b
  cl : ∀ (n : Nat) (a : κ), D.closed n (toD a) = true
open Emb
section
variable {κ ν : Type} [Emb κ] [Emb ν]
theorem emb_pys (S : Sto) : ∀ xs : List κ, toPys S (xs.map toD) = some (xs.map py)
  | [] => rfl
  | x :: r => by unfold List.map toPys; rw [pyOk S x, emb_pys S r]
theorem emb_closed (n : Nat) : ∀ xs : List κ, closedL n (xs.map toD) = true
  | [] => rfl
  | x :: r => by unfold List.map closedL; rw [cl n x, emb_closed n r]; rfl
theorem emb_al : ∀ xs ys : List κ, PySem.W.alikeAll (xs.map py) (ys.map py) = true
  | [], _ => by unfold List.map PySem.W.alikeAll; rfl
  | _ :: _, [] => by unfold List.map PySem.W.alikeAll; rfl
  | x :: r, y :: q => by unfold List.map PySem.W.alikeAll; rw [al x y, emb_al r q]; rfl
theorem emb_dep : ∀ xs : List κ, PyData.depthAll (xs.map py) ≤ deg κ
  | [] => by simp [PyData.depthAll]
  | x :: r => by
    have h1 := dep x
    have h2 := emb_dep r
    simp only [List.map_cons, PyData.depthAll]
    omega
theorem emb_injs : ∀ xs ys : List κ, PyData.eqvAll (xs.map py) (ys.map py) = true → xs = ys
  | [], [], _ => rfl
  | [], _ :: _, h => by simp [PyData.eqvAll] at h
  | _ :: _, [], h => by simp [PyData.eqvAll] at h
  | x :: r, y :: q, h => by
    simp only [List.map_cons, PyData.eqvAll, Bool.and_eq_true] at h
    rw [inj x y h.1, emb_injs r q h.2]
theorem deref_emb (S : Sto) (a : κ) : deref S (toD a) = toD a := by
  have h := np a
  cases q : (toD a : D) with
  | ptr k => exact absurd q (h k)
  | _ => rfl
end
instance : Emb Int where
  toD := .int
  py := .int
  deg := 0
  pyOk := fun _ _ => rfl
  np := fun _ _ h => nomatch h
  al := fun a b => by simp [PySem.W.alike]
  dep := fun a => by simp [PyData.depth]
  inj := fun a b h => by simpa [PyData.eqv] using h
  cl := fun _ _ => rfl
instance : Emb Str where
  toD := .str
  py := .str
  deg := 0
  pyOk := fun _ _ => rfl
  np := fun _ _ h => nomatch h
  al := fun a b => by simp [PySem.W.alike]
  dep := fun a => by simp [PyData.depth]
  inj := fun a b h => by simpa [PyData.eqv] using h
  cl := fun _ _ => rfl
instance {α β : Type} [Emb α] [Emb β] : Emb (α × β) where
  toD := fun p => .tup [toD p.1, toD p.2]
  py := fun p => .tuple [py p.1, py p.2]
  deg := max (deg α) (deg β) + 1
  pyOk := fun S p => by unfold toPy toPys toPys toPys; rw [pyOk, pyOk]; rfl
  np := fun _ _ h => nomatch h
  al := fun a b => by simp [PySem.W.alike, PySem.W.alikeAll, al]
  dep := fun a => by
    have h1 := dep a.1
    have h2 := dep a.2
    simp only [PyData.depth, PyData.depthAll]
    omega
  inj := fun a b h => by
    simp only [PyData.eqv, PyData.eqvAll, Bool.and_eq_true] at h
    exact Prod.ext (inj _ _ h.1) (inj _ _ h.2.1)
  cl := fun n p => by unfold D.closed closedL closedL closedL; rw [cl, cl]; rfl
instance {α : Type} [Emb α] : Emb (List α) where
  toD := fun xs => .tup (xs.map toD)
  py := fun xs => .tuple (xs.map py)
  deg := deg α + 1
  pyOk := fun S xs => by unfold toPy; rw [emb_pys]; rfl
  np := fun _ _ h => nomatch h
  al := fun a b => by unfold PySem.W.alike; exact emb_al a b
  dep := fun a => by
    have := emb_dep a
    simp only [PyData.depth]
    omega
  inj := fun a b h => by
    simp only [PyData.eqv] at h
    exact emb_injs a b h
  cl := fun n xs => by unfold D.closed; exact emb_closed n xs
theorem toD_int (i : Int) : (toD i : D) = .int i := rfl
theorem toD_str (i : Str) : (toD i : D) = .str i := rfl
theorem toD_pair {α β : Type} [Emb α] [Emb β] (p : α × β) : (toD p : D) = .tup [toD p.1, toD p.2] := rfl
theorem toD_list {α : Type} [Emb α] (p : List α) : (toD p : D) = .tup (p.map toD) := rfl
/-! ### order -/
section
variable {κ ν : Type} [Emb κ] [Emb ν]
def ltE (a b : κ) : Bool := PySem.W.dataLt (py a) (py b)
def leE (a b : κ) : Bool := !ltE b a
theorem leE_sort : (leE : κ → κ → Bool) = PySem.W.sortLe (PyProof.Rows.listOrd PyProof.Rows.itemOrd) false (fun a : κ => PySem.W.keyToks (py a)) := rfl
theorem leE_total : PySem.W.TotalLe (leE : κ → κ → Bool) := by rw [leE_sort]; exact PySem.W.sortLe_total _ _ _
theorem toks_inj {a b : κ} (h : PySem.W.keyToks (py a) = PySem.W.keyToks (py b)) : a = b := by
  obtain ⟨_, h2⟩ := PySem.W.toks_eqv (py a) (py b) (al a b)
  cases q : PyData.eqv (py a) (py b) with
  | true => exact inj a b q
  | false =>
    have e1 := h2 q [] [.inl 0]
    have e2 := h2 q [] []
    rw [h] at e1 e2
    rw [PySem.W.lex_pre] at e1 e2
    rw [← e2] at e1
    cases e1
theorem leE_anti {a b : κ} (h1 : leE a b = true) (h2 : leE b a = true) : a = b := by
  unfold leE ltE at h1 h2
  rw [Bool.not_eq_true'] at h1 h2
  exact toks_inj ((PyProof.Rows.listOrd PyProof.Rows.itemOrd).total _ _ h2 h1)
theorem ltE_irr (a : κ) : ltE a a = false := (PyProof.Rows.listOrd PyProof.Rows.itemOrd).irrefl _
theorem ltE_ne {a b : κ} (h : ltE a b = true) : a ≠ b := fun e => by subst e; rw [ltE_irr] at h; cases h
theorem ltE_trans {a b c : κ} (h : ltE a b = true) (g : ltE b c = true) : ltE a c = true := (PyProof.Rows.listOrd PyProof.Rows.itemOrd).trans _ _ _ h g
theorem leE_of_lt {a b : κ} (h : ltE a b = true) : leE a b = true := by
  unfold leE
  cases q : ltE b a with
  | false => rfl
  | true => exact absurd (ltE_trans h q) (by rw [ltE_irr]; decide)
theorem ltE_of_le {a b : κ} (h : leE a b = true) (hn : a ≠ b) : ltE a b = true := by
  cases q : ltE a b with
  | true => rfl
  | false => exact absurd (leE_anti h (by unfold leE; rw [q]; rfl)) hn
/-- pairs of unlike firsts -/
theorem ltE_fst {p q : κ × ν} (h : p.1 ≠ q.1) : ltE p q = ltE p.1 q.1 := by
  unfold ltE
  show PySem.W.dataLt (.tuple [py p.1, py p.2]) (.tuple [py q.1, py q.2]) = _
  rw [PySem.W.dataLt_pair (al _ _) (al _ _)]
  have : PyData.eqv (py p.1) (py q.1) = false := by
    cases e : PyData.eqv (py p.1) (py q.1) with
    | false => rfl
    | true => exact absurd (inj _ _ e) h
  rw [this]
  rfl
def srt (xs : List κ) : List κ := xs.mergeSort leE
theorem srt_perm (xs : List κ) : (srt xs).Perm xs := List.mergeSort_perm _ _
theorem srt_pair (xs : List κ) : (srt xs).Pairwise fun a b => leE a b = true := PySem.W.sort_pairwise leE_total xs
theorem srt_id {xs : List κ} (h : xs.Pairwise fun a b => leE a b = true) : srt xs = xs := List.mergeSort_of_pairwise h
theorem sorted_one {xs ys : List κ} (h1 : xs.Pairwise fun a b => leE a b = true) (h2 : ys.Pairwise fun a b => leE a b = true) (p : xs.Perm ys) : xs = ys := p.eq_of_pairwise (fun _ _ _ _ a b => leE_anti a b) h1 h2
theorem srt_eq {xs ys : List κ} (p : xs.Perm ys) : srt xs = srt ys := sorted_one (srt_pair _) (srt_pair _) ((srt_perm xs).trans (p.trans (srt_perm ys).symm))
theorem srt_len (xs : List κ) : (srt xs).length = xs.length := (srt_perm xs).length_eq
theorem srt_mem {xs : List κ} {a : κ} : a ∈ srt xs ↔ a ∈ xs := (srt_perm xs).mem_iff
class Sok (κ : Type) [Emb κ] : Prop where
  sok : (∀ a : κ, tupFull (py a) = true) ∨ ∀ a : κ, noTup (py a) = true
  low : deg κ ≤ 40
theorem sortD_emb [Sok κ] (S : Sto) (xs : List κ) (hl : xs.length ≤ sizeLine) : sortD S (xs.map toD) = some ((srt xs).map toD) := by
  unfold sortD
  rw [emb_pys]
  dsimp only
  have so : sortable (xs.map py) = true := by
    unfold sortable
    rw [Bool.and_eq_true, Bool.and_eq_true, Bool.or_eq_true]
    refine ⟨(Sok.sok (κ := κ)).imp (fun h => List.all_eq_true.mpr fun x hx => ?_) (fun h => List.all_eq_true.mpr fun x hx => ?_), List.all_eq_true.mpr fun x hx => List.all_eq_true.mpr fun y hy => ?_, List.all_eq_true.mpr fun x hx => decide_eq_true ?_⟩
    · obtain ⟨a, _, rfl⟩ := List.mem_map.mp hx; exact h a
    · obtain ⟨a, _, rfl⟩ := List.mem_map.mp hx; exact h a
    · obtain ⟨a, _, rfl⟩ := List.mem_map.mp hx
      obtain ⟨b, _, rfl⟩ := List.mem_map.mp hy
      exact al a b
    · obtain ⟨a, _, rfl⟩ := List.mem_map.mp hx
      exact Nat.le_trans (dep a) (Sok.low (κ := κ))
  rw [so, List.length_map, decide_eq_true hl]
  show some _ = some _
  congr 1
  unfold sortBy srt
  rw [show (xs.map toD).zip (xs.map py) = xs.map fun a : κ => ((toD a : D), py a) from by rw [List.zip_map']]
  rw [← PySem.W.sort_maps (r := leE) (s := PySem.W.dataLe false fun p : D × PyData => p.2) (fun a : κ => ((toD a : D), py a)) (fun a _ b _ => rfl), List.map_map]
  rfl
instance : Sok Int := ⟨.inr fun _ => rfl, by decide⟩
instance : Sok Str := ⟨.inr fun _ => rfl, by decide⟩
end
/-! ### rows of pairs: dicts -/
section
variable {κ ν : Type} [DecidableEq κ]
def getT : List (κ × ν) → κ → Option ν
  | [], _ => none
  | (k, v) :: r, q => if k = q then some v else getT r q
def replT : List (κ × ν) → κ → ν → List (κ × ν)
  | [], _, _ => []
  | (k, v) :: r, q, y => if k = q then (k, y) :: replT r q y else (k, v) :: replT r q y
def putT (kvs : List (κ × ν)) (q : κ) (y : ν) : List (κ × ν) := if (getT kvs q).isSome then replT kvs q y else kvs ++ [(q, y)]
def mergeT (kvs more : List (κ × ν)) : List (κ × ν) := more.foldl (fun acc p => putT acc p.1 p.2) kvs
def ND (kvs : List (κ × ν)) : Prop := (kvs.map (·.1)).Nodup
theorem getT_nil (q : κ) : getT ([] : List (κ × ν)) q = none := rfl
theorem getT_cons (k : κ) (v : ν) (r : List (κ × ν)) (q : κ) : getT ((k, v) :: r) q = if k = q then some v else getT r q := rfl
theorem getT_app (a b : List (κ × ν)) (q : κ) : getT (a ++ b) q = (getT a q).or (getT b q) := by
  induction a with
  | nil => rfl
  | cons p r ih =>
    show getT ((p.1, p.2) :: (r ++ b)) q = (getT ((p.1, p.2) :: r) q).or _
    rw [getT_cons, getT_cons]
    split
    · rfl
    · exact ih
theorem getT_repl (kvs : List (κ × ν)) (k q : κ) (v : ν) : getT (replT kvs k v) q = if q = k then (getT kvs k).map (fun _ => v) else getT kvs q := by
  induction kvs with
  | nil => show none = _; rw [getT_nil, getT_nil]; split <;> rfl
  | cons p r ih =>
    obtain ⟨k', v'⟩ := p
    show getT (if k' = k then (k', v) :: replT r k v else (k', v') :: replT r k v) q = _
    rw [getT_cons, getT_cons]
    by_cases h : k' = k
    · subst h
      rw [if_pos rfl, if_pos rfl, getT_cons]
      by_cases z : k' = q
      · subst z; rw [if_pos rfl, if_pos rfl]; rfl
      · rw [if_neg z, ih, if_neg (Ne.symm z), if_neg (Ne.symm z), if_neg z]
    · rw [if_neg h, if_neg h, getT_cons]
      by_cases z : k' = q
      · subst z; rw [if_pos rfl, if_neg h, if_pos rfl]
      · rw [if_neg z, ih]
        by_cases y : q = k
        · rw [if_pos y, if_pos y]
        · rw [if_neg y, if_neg y, if_neg z]
theorem getT_put (kvs : List (κ × ν)) (k q : κ) (v : ν) : getT (putT kvs k v) q = if q = k then some v else getT kvs q := by
  unfold putT
  split
  · rename_i h
    rw [getT_repl]
    split
    · cases e : getT kvs k with
      | none => rw [e] at h; cases h
      | some _ => rfl
    · rfl
  · rename_i h
    have h : getT kvs k = none := by simpa using h
    rw [getT_app, getT_cons, getT_nil]
    by_cases z : q = k
    · subst z
      rw [h]
      simp
    · rw [if_neg z, if_neg (Ne.symm z)]
      cases getT kvs q <;> rfl
theorem repl_keys (kvs : List (κ × ν)) (k : κ) (v : ν) : (replT kvs k v).map (·.1) = kvs.map (·.1) := by
  induction kvs with
  | nil => rfl
  | cons p r ih =>
    unfold replT
    split <;> rw [List.map_cons, ih] <;> rfl
theorem getT_none {kvs : List (κ × ν)} {q : κ} : getT kvs q = none ↔ q ∉ kvs.map (·.1) := by
  induction kvs with
  | nil => exact ⟨fun _ h => (nomatch h), fun _ => rfl⟩
  | cons p r ih =>
    obtain ⟨k', v'⟩ := p
    rw [getT_cons]
    by_cases h : k' = q
    · subst h; rw [if_pos rfl]; exact ⟨fun z => (nomatch z), fun z => absurd (List.mem_cons_self ..) z⟩
    · rw [if_neg h, ih]
      exact ⟨fun z y => by
        rcases List.mem_cons.mp y with y | y
        · exact h y.symm
        · exact z y, fun z y => z (List.mem_cons_of_mem _ y)⟩
theorem nd_put {kvs : List (κ × ν)} (h : ND kvs) (k : κ) (v : ν) : ND (putT kvs k v) := by
  unfold putT
  split
  · unfold ND; rw [repl_keys]; exact h
  · rename_i z
    have z : getT kvs k = none := by simpa using z
    unfold ND
    rw [List.map_append]
    refine List.nodup_append.mpr ⟨h, by simp, fun a ha b hb e => ?_⟩
    have : b = k := by simpa using hb
    subst this; subst e
    exact getT_none.mp z ha
theorem getT_mem {kvs : List (κ × ν)} {k : κ} {v : ν} (h : getT kvs k = some v) : (k, v) ∈ kvs := by
  induction kvs with
  | nil => cases h
  | cons p r ih =>
    obtain ⟨k', v'⟩ := p
    rw [getT_cons] at h
    split at h
    · rename_i e; subst e; cases h; exact List.mem_cons_self
    · exact List.mem_cons_of_mem _ (ih h)
theorem mem_getT {kvs : List (κ × ν)} (hn : ND kvs) {k : κ} {v : ν} (h : (k, v) ∈ kvs) : getT kvs k = some v := by
  induction kvs with
  | nil => cases h
  | cons p r ih =>
    obtain ⟨k', v'⟩ := p
    unfold ND at hn
    rw [List.map_cons, List.nodup_cons] at hn
    rw [getT_cons]
    rcases List.mem_cons.mp h with e | h
    · cases e; rw [if_pos rfl]
    · have : k' ≠ k := fun z => by subst z; exact hn.1 (List.mem_map.mpr ⟨_, h, rfl⟩)
      rw [if_neg this]
      exact ih hn.2 h
theorem nd_pairs {kvs : List (κ × ν)} (h : ND kvs) : kvs.Nodup := by
  unfold ND at h
  exact (List.pairwise_map.mp h).imp fun a b => a (congrArg (·.1) b)
theorem perm_of_get {a b : List (κ × ν)} (ha : ND a) (hb : ND b) (h : ∀ q, getT a q = getT b q) : a.Perm b :=
  (List.perm_ext_iff_of_nodup (nd_pairs ha) (nd_pairs hb)).mpr fun p => ⟨fun hp => getT_mem (by rw [← h]; exact mem_getT ha hp), fun hp => getT_mem (by rw [h]; exact mem_getT hb hp)⟩
theorem nd_perm {a b : List (κ × ν)} (h : a.Perm b) (ha : ND a) : ND b := (h.map _).nodup_iff.mp ha
theorem get_perm {a b : List (κ × ν)} (h : a.Perm b) (ha : ND a) (q : κ) : getT a q = getT b q := by
  have hb := nd_perm h ha
  cases e : getT a q with
  | some v => exact (mem_getT hb (h.mem_iff.mp (getT_mem e))).symm
  | none =>
    rw [getT_none] at e
    exact (getT_none.mpr fun z => e ((h.map _).mem_iff.mpr z)).symm
theorem nd_filter {a : List (κ × ν)} (f : κ × ν → Bool) (ha : ND a) : ND (a.filter f) := by
  unfold ND at *
  exact (List.filter_sublist.map _).nodup ha
theorem get_filter {a : List (κ × ν)} (f : κ × ν → Bool) (ha : ND a) (q : κ) : getT (a.filter f) q = (getT a q).filter fun v => f (q, v) := by
  cases e : getT a q with
  | none =>
    rw [getT_none] at e
    exact getT_none.mpr fun z => e ((List.filter_sublist.map _).subset z)
  | some v =>
    have hm := getT_mem e
    cases hf : f (q, v) with
    | true =>
      rw [mem_getT (nd_filter f ha) (List.mem_filter.mpr ⟨hm, hf⟩)]
      simp [Option.filter, hf]
    | false =>
      rw [show (some v).filter (fun v => f (q, v)) = none by simp [Option.filter, hf]]
      refine getT_none.mpr fun z => ?_
      obtain ⟨p, hp, e2⟩ := List.mem_map.mp z
      obtain ⟨hp1, hp2⟩ := List.mem_filter.mp hp
      have : p.2 = v := by
        have := mem_getT ha (show (q, p.2) ∈ a by rw [← e2]; exact hp1)
        rw [e] at this; cases this; rfl
      rw [show p = (q, v) from Prod.ext e2 this, hf] at hp2
      cases hp2
theorem nd_merge {b : List (κ × ν)} : ∀ {a : List (κ × ν)}, ND a → ND (mergeT a b) := by
  induction b with
  | nil => exact fun h => h
  | cons p r ih => exact fun h => ih (nd_put h _ _)
theorem merge_new : ∀ {b a : List (κ × ν)}, ND (a ++ b) → mergeT a b = a ++ b
  | [], a, _ => by rw [List.append_nil]; rfl
  | p :: r, a, h => by
    have e : putT a p.1 p.2 = a ++ [p] := by
      unfold putT
      have : getT a p.1 = none := getT_none.mpr fun z => by
        unfold ND at h
        rw [List.map_append] at h
        exact (List.nodup_append.mp h).2.2 p.1 z p.1 (by simp) rfl
      rw [this]
      rfl
    show mergeT (putT a p.1 p.2) r = _
    rw [e, merge_new (by rw [List.append_assoc]; exact h), List.append_assoc]
    rfl
theorem merge_id {b : List (κ × ν)} (h : ND b) : mergeT [] b = b := merge_new h
theorem put_len (kvs : List (κ × ν)) (k : κ) (v : ν) : (putT kvs k v).length ≤ kvs.length + 1 := by
  unfold putT
  split
  · have := congrArg List.length (repl_keys kvs k v)
    rw [List.length_map, List.length_map] at this
    omega
  · rw [List.length_append]; exact Nat.le_refl _
theorem put_all {P : κ × ν → Prop} {kvs : List (κ × ν)} (h : ∀ p ∈ kvs, P p) {k : κ} {v : ν} (hv : P (k, v)) : ∀ p ∈ putT kvs k v, P p := by
  have rp : ∀ {kvs : List (κ × ν)}, (∀ p ∈ kvs, P p) → ∀ p ∈ replT kvs k v, P p := by
    intro kvs
    induction kvs with
    | nil => exact fun _ _ z => nomatch z
    | cons p r ih =>
      obtain ⟨k', v'⟩ := p
      intro h p hp
      unfold replT at hp
      split at hp
      · rename_i e
        subst e
        rcases List.mem_cons.mp hp with rfl | hp
        · exact hv
        · exact ih (fun q hq => h q (List.mem_cons_of_mem _ hq)) p hp
      · rcases List.mem_cons.mp hp with rfl | hp
        · exact h _ List.mem_cons_self
        · exact ih (fun q hq => h q (List.mem_cons_of_mem _ hq)) p hp
  unfold putT
  split
  · exact rp h
  · intro p hp
    rcases List.mem_append.mp hp with hp | hp
    · exact h p hp
    · rw [List.mem_singleton.mp hp]; exact hv
end
/-! ### rows in order -/
section
variable {κ ν : Type} [Emb κ] [Emb ν] [DecidableEq κ]
def Inc (xs : List (κ × ν)) : Prop := xs.Pairwise fun p q => ltE p.1 q.1 = true
theorem inc_nd {xs : List (κ × ν)} (h : Inc xs) : ND xs := by
  unfold ND
  exact List.pairwise_map.mpr (h.imp fun a => ltE_ne a)
theorem inc_sorted {xs : List (κ × ν)} (h : Inc xs) : xs.Pairwise fun a b => leE a b = true := h.imp fun {a b} q => leE_of_lt (by rw [ltE_fst (ltE_ne q)]; exact q)
theorem inc_srt {xs : List (κ × ν)} (h : ND xs) : Inc (srt xs) := by
  have h1 := srt_pair xs
  have h2 := nd_perm (srt_perm xs).symm h
  unfold ND at h2
  exact (h1.and (List.pairwise_map.mp h2)).imp fun {a b} ⟨q1, q2⟩ => by
    have := ltE_of_le q1 fun e => q2 (congrArg (·.1) e)
    rwa [ltE_fst q2] at this
theorem inc_one {a b : List (κ × ν)} (ha : Inc a) (hb : Inc b) (h : ∀ q, getT a q = getT b q) : a = b := sorted_one (inc_sorted ha) (inc_sorted hb) (perm_of_get (inc_nd ha) (inc_nd hb) h)
theorem srt_inc {xs : List (κ × ν)} (h : Inc xs) : srt xs = xs := srt_id (inc_sorted h)
theorem get_srt {xs : List (κ × ν)} (h : ND xs) (q : κ) : getT (srt xs) q = getT xs q := (get_perm (srt_perm xs).symm h q).symm
end
end DL

set_option Elab.async false
set_option linter.all false
set_option maxRecDepth 100000
set_option maxHeartbeats 4000000
set_option autoImplicit false
/-! Typed dicts in the store. -/
namespace DL
open PySem L2
open Emb
/-- what may be a key: texts, numbers (pk), tuples -/
class KeyE (κ : Type) [Emb κ] [DecidableEq κ] where
  pk : Bool
  plain : pk = true → ∀ a : κ, isKey (toD a) = true ∧ ∀ b : κ, keyEq (toD a) (toD b) = decide (a = b)
  nest : pk = false → ∀ a : κ, isKey (toD a) = false ∧ isKeyN (toD a) = true ∧ ∀ b : κ, eqN (toD a) (toD b) = decide (a = b)
/-- things that can be tuple keys, and stand in such -/
class NkE (κ : Type) [Emb κ] where
  nk : κ → NestedKey
  nkOk : ∀ a : κ, keyN (toD a) = some (nk a)
  nkInj : ∀ a b : κ, nk a = nk b → a = b
  kdeg : Nat
  nkDep : ∀ a : κ, (nk a).depth ≤ kdeg
open NkE
instance : NkE Int where
  nk := .num
  nkOk := fun _ => by unfold keyN; rfl
  nkInj := fun a b h => by cases h; rfl
  kdeg := 0
  nkDep := fun a => by simp [NestedKey.depth]
instance : NkE Str where
  nk := .text
  nkOk := fun _ => by unfold keyN; rfl
  nkInj := fun a b h => by cases h; rfl
  kdeg := 0
  nkDep := fun a => by simp [NestedKey.depth]
section
variable {α β : Type} [Emb α] [Emb β] [NkE α] [NkE β]
theorem nks_ok : ∀ xs : List α, keyNs (xs.map toD) = some (xs.map nk)
  | [] => by unfold List.map keyNs; rfl
  | x :: r => by unfold List.map keyNs; rw [nkOk x, nks_ok r]
theorem nks_inj : ∀ xs ys : List α, xs.map nk = ys.map nk → xs = ys
  | [], [], _ => rfl
  | [], _ :: _, h => nomatch h
  | _ :: _, [], h => nomatch h
  | x :: r, y :: q, h => by
    simp only [List.map_cons, List.cons.injEq] at h
    rw [nkInj x y h.1, nks_inj r q h.2]
theorem nks_dep : ∀ xs : List α, NestedKey.depthAll (xs.map nk) ≤ kdeg α
  | [] => by simp [NestedKey.depthAll]
  | x :: r => by
    have h1 := nkDep x
    have h2 := nks_dep r
    simp only [List.map_cons, NestedKey.depthAll]
    omega
instance : NkE (α × β) where
  nk := fun p => .tup [nk p.1, nk p.2]
  nkOk := fun p => by
    show keyN (.tup [toD p.1, toD p.2]) = _
    unfold keyN keyNs keyNs keyNs
    rw [nkOk, nkOk]; rfl
  nkInj := fun a b h => by
    simp only [NestedKey.tup.injEq, List.cons.injEq] at h
    exact Prod.ext (nkInj _ _ h.1) (nkInj _ _ h.2.1)
  kdeg := max (kdeg α) (kdeg β) + 1
  nkDep := fun a => by
    have h1 := nkDep a.1
    have h2 := nkDep a.2
    simp only [NestedKey.depth, NestedKey.depthAll]
    omega
instance : NkE (List α) where
  nk := fun xs => .tup (xs.map nk)
  nkOk := fun xs => by
    show keyN (.tup (xs.map toD)) = _
    unfold keyN
    rw [nks_ok]; rfl
  nkInj := fun a b h => by
    simp only [NestedKey.tup.injEq] at h
    exact nks_inj _ _ h
  kdeg := kdeg α + 1
  nkDep := fun a => by
    have := nks_dep a
    simp only [NestedKey.depth]
    omega
end
theorem nest_of {κ : Type} [Emb κ] [DecidableEq κ] [NkE κ] (ht : ∀ a : κ, ∃ ds, (toD a : D) = .tup ds) (hd : kdeg κ ≤ 8) (a : κ) : isKey (toD a) = false ∧ isKeyN (toD a) = true ∧ ∀ b : κ, eqN (toD a) (toD b) = decide (a = b) := by
  obtain ⟨ds, e⟩ := ht a
  refine ⟨by rw [e]; rfl, ?_, fun b => ?_⟩
  · have h := nkOk a
    rw [e] at h ⊢
    unfold isKeyN
    dsimp only
    rw [h]
    exact decide_eq_true (Nat.le_trans (nkDep a) hd)
  · rw [eqN_dec (nkOk a) (nkOk b)]
    by_cases h : a = b
    · subst h; rw [decide_eq_true rfl, decide_eq_true rfl]
    · rw [decide_eq_false h, decide_eq_false fun z => h (nkInj _ _ z)]
instance : KeyE Str where
  pk := true
  plain := fun _ a => ⟨rfl, fun b => by
    show keyEq (kD (.inr a)) (kD (.inr b)) = _
    rw [keyEq_kD]
    by_cases h : a = b
    · subst h; rw [decide_eq_true rfl, decide_eq_true rfl]
    · rw [decide_eq_false h, decide_eq_false fun z => h (by cases z; rfl)]⟩
  nest := fun h => nomatch h
instance : KeyE Int where
  pk := true
  plain := fun _ a => ⟨rfl, fun b => by
    show keyEq (kD (.inl a)) (kD (.inl b)) = _
    rw [keyEq_kD]
    by_cases h : a = b
    · subst h; rw [decide_eq_true rfl, decide_eq_true rfl]
    · rw [decide_eq_false h, decide_eq_false fun z => h (by cases z; rfl)]⟩
  nest := fun h => nomatch h
section
variable {κ ν : Type} [Emb κ] [Emb ν] [DecidableEq κ] [KeyE κ]
def kvD (kvs : List (κ × ν)) : List (D × D) := kvs.map fun p => (toD p.1, toD p.2)
theorem kvD_len (kvs : List (κ × ν)) : (kvD kvs).length = kvs.length := List.length_map _
theorem lookD_kv (hp : KeyE.pk κ = true) (kvs : List (κ × ν)) (k : κ) : lookD (kvD kvs) (toD k) = (getT kvs k).map toD := by
  induction kvs with
  | nil => rfl
  | cons p r ih =>
    show (if keyEq (toD p.1) (toD k) = true then some (toD p.2) else lookD (kvD r) (toD k)) = Option.map toD (if p.1 = k then some p.2 else getT r k)
    rw [((KeyE.plain hp p.1).2 k), ih]
    by_cases h : p.1 = k
    · rw [decide_eq_true h, if_pos h, if_pos rfl]; rfl
    · rw [decide_eq_false h, if_neg h, if_neg Bool.false_ne_true]
theorem lookN_kv (hp : KeyE.pk κ = false) (kvs : List (κ × ν)) (k : κ) : lookN (kvD kvs) (toD k) = (getT kvs k).map toD := by
  induction kvs with
  | nil => rfl
  | cons p r ih =>
    show (if eqN (toD p.1) (toD k) = true then some (toD p.2) else lookN (kvD r) (toD k)) = Option.map toD (if p.1 = k then some p.2 else getT r k)
    rw [((KeyE.nest hp p.1).2.2 k), ih]
    by_cases h : p.1 = k
    · rw [decide_eq_true h, if_pos h, if_pos rfl]; rfl
    · rw [decide_eq_false h, if_neg h, if_neg Bool.false_ne_true]
theorem replD_kv (hp : KeyE.pk κ = true) (kvs : List (κ × ν)) (k : κ) (v : ν) : replD (kvD kvs) (toD k) (toD v) = kvD (replT kvs k v) := by
  induction kvs with
  | nil => rfl
  | cons p r ih =>
    show (if keyEq (toD p.1) (toD k) = true then (toD p.1, toD v) :: replD (kvD r) (toD k) (toD v) else (toD p.1, toD p.2) :: replD (kvD r) (toD k) (toD v)) = kvD (if p.1 = k then (p.1, v) :: replT r k v else (p.1, p.2) :: replT r k v)
    rw [((KeyE.plain hp p.1).2 k), ih]
    by_cases h : p.1 = k
    · rw [decide_eq_true h, if_pos h, if_pos rfl]; rfl
    · rw [decide_eq_false h, if_neg h, if_neg Bool.false_ne_true]; rfl
theorem replN_kv (hp : KeyE.pk κ = false) (kvs : List (κ × ν)) (k : κ) (v : ν) : replN (kvD kvs) (toD k) (toD v) = kvD (replT kvs k v) := by
  induction kvs with
  | nil => rfl
  | cons p r ih =>
    show (if eqN (toD p.1) (toD k) = true then (toD p.1, toD v) :: replN (kvD r) (toD k) (toD v) else (toD p.1, toD p.2) :: replN (kvD r) (toD k) (toD v)) = kvD (if p.1 = k then (p.1, v) :: replT r k v else (p.1, p.2) :: replT r k v)
    rw [((KeyE.nest hp p.1).2.2 k), ih]
    by_cases h : p.1 = k
    · rw [decide_eq_true h, if_pos h, if_pos rfl]; rfl
    · rw [decide_eq_false h, if_neg h, if_neg Bool.false_ne_true]; rfl
theorem putD_kv (hp : KeyE.pk κ = true) (kvs : List (κ × ν)) (k : κ) (v : ν) : putD (kvD kvs) (toD k) (toD v) = kvD (putT kvs k v) := by
  unfold putD putT
  rw [lookD_kv hp, replD_kv hp, Option.isSome_map]
  cases (getT kvs k).isSome with
  | true => rfl
  | false => show kvD kvs ++ _ = kvD (kvs ++ _); unfold kvD; rw [List.map_append]; rfl
theorem putN_kv (hp : KeyE.pk κ = false) (kvs : List (κ × ν)) (k : κ) (v : ν) : putN (kvD kvs) (toD k) (toD v) = kvD (putT kvs k v) := by
  unfold putN putT
  rw [lookN_kv hp, replN_kv hp, Option.isSome_map]
  cases (getT kvs k).isSome with
  | true => rfl
  | false => show kvD kvs ++ _ = kvD (kvs ++ _); unfold kvD; rw [List.map_append]; rfl
theorem mergeD_kv (hp : KeyE.pk κ = true) : ∀ (more kvs : List (κ × ν)), mergeD (kvD kvs) (kvD more) = kvD (mergeT kvs more)
  | [], _ => rfl
  | p :: r, kvs => by
    show mergeD (putD (kvD kvs) (toD p.1) (toD p.2)) (kvD r) = kvD (mergeT (putT kvs p.1 p.2) r)
    rw [putD_kv hp, mergeD_kv hp r]
theorem mergeN_kv (hp : KeyE.pk κ = false) : ∀ (more kvs : List (κ × ν)), mergeN (kvD kvs) (kvD more) = kvD (mergeT kvs more)
  | [], _ => rfl
  | p :: r, kvs => by
    show mergeN (putN (kvD kvs) (toD p.1) (toD p.2)) (kvD r) = kvD (mergeT (putT kvs p.1 p.2) r)
    rw [putN_kv hp, mergeN_kv hp r]
/-- u is the dict of these -/
def IsDic (u : D) (kvs : List (κ × ν)) : Prop := (kvs = [] ∧ u = .dct []) ∨ (KeyE.pk κ = true ∧ u = .dct (kvD kvs)) ∨ (KeyE.pk κ = false ∧ u = .dcn (kvD kvs))
theorem isDic_nil : IsDic (.dct []) ([] : List (κ × ν)) := .inl ⟨rfl, rfl⟩
theorem isDic_closed {u : D} {kvs : List (κ × ν)} (h : IsDic u kvs) (n : Nat) : D.closed n u = true := by
  have key : ∀ kvs : List (κ × ν), closedK n (kvD kvs) = true := fun kvs => by
    induction kvs with
    | nil => rfl
    | cons p r ih => show closedK n ((toD p.1, toD p.2) :: kvD r) = true; unfold closedK; rw [cl, cl, ih]; rfl
  rcases h with ⟨_, rfl⟩ | ⟨_, rfl⟩ | ⟨_, rfl⟩
  · rfl
  · unfold D.closed; exact key kvs
  · unfold D.closed; exact key kvs
theorem isDic_owned {u : D} {kvs : List (κ × ν)} (h : IsDic u kvs) : u.owned = true := by
  rcases h with ⟨_, rfl⟩ | ⟨_, rfl⟩ | ⟨_, rfl⟩ <;> rfl
theorem dic_deref {S : Sto} {j : Nat} {u : D} {kvs : List (κ × ν)} (h : IsDic u kvs) (hj : S[j]? = some u) : deref S (.ptr j) = u := by
  unfold deref
  dsimp only
  rw [show S.getD j .non = u by rw [List.getD_eq_getElem?_getD, hj]; rfl]
  rcases h with ⟨_, rfl⟩ | ⟨_, rfl⟩ | ⟨_, rfl⟩ <;> rfl
theorem dic_isDct {S : Sto} {j : Nat} {u : D} {kvs : List (κ × ν)} (h : IsDic u kvs) (hj : S[j]? = some u) : isDct S (.ptr j) = true := by
  unfold isDct
  rw [dic_deref h hj]
  rcases h with ⟨_, rfl⟩ | ⟨_, rfl⟩ | ⟨_, rfl⟩ <;> rfl
theorem dic_lookU {S : Sto} {j : Nat} {u : D} {kvs : List (κ × ν)} (h : IsDic u kvs) (hj : S[j]? = some u) (k : κ) : lookU S (.ptr j) (toD k) = some ((getT kvs k).map toD) := by
  unfold lookU
  rw [dic_deref h hj]
  rcases h with ⟨rfl, rfl⟩ | ⟨hp, rfl⟩ | ⟨hp, rfl⟩
  · dsimp only
    cases hp : KeyE.pk κ with
    | true => rw [if_pos (KeyE.plain hp k).1]; rfl
    | false =>
      rw [if_neg (by rw [(KeyE.nest hp k).1]; decide)]
      first
        | (rw [if_pos (by simp [(KeyE.nest hp k).2.1])]; rfl)
        | rfl
  · dsimp only
    rw [if_pos (KeyE.plain hp k).1, lookD_kv hp]
  · dsimp only
    rw [if_pos (KeyE.nest hp k).2.1, lookN_kv hp]
theorem dic_putU {u : D} {kvs : List (κ × ν)} (h : IsDic u kvs) (hl : kvs.length < sizeLine) (k : κ) (v : ν) : ∃ u', putU u (toD k) (toD v) = some u' ∧ IsDic u' (putT kvs k v) := by
  rcases h with ⟨rfl, rfl⟩ | ⟨hp, rfl⟩ | ⟨hp, rfl⟩
  · cases hp : KeyE.pk κ with
    | true =>
      refine ⟨.dct (kvD (putT ([] : List (κ × ν)) k v)), ?_, .inr (.inl ⟨hp, rfl⟩)⟩
      unfold putU
      dsimp only
      rw [if_pos (KeyE.plain hp k).1]
      rfl
    | false =>
      refine ⟨.dcn (kvD (putT ([] : List (κ × ν)) k v)), ?_, .inr (.inr ⟨hp, rfl⟩)⟩
      unfold putU
      dsimp only
      rw [if_neg (by rw [(KeyE.nest hp k).1]; decide), (KeyE.nest hp k).2.1]
      rfl
  · refine ⟨.dct (kvD (putT kvs k v)), ?_, .inr (.inl ⟨hp, rfl⟩)⟩
    unfold putU
    dsimp only
    rw [if_pos (KeyE.plain hp k).1, kvD_len, if_pos hl, putD_kv hp]
  · refine ⟨.dcn (kvD (putT kvs k v)), ?_, .inr (.inr ⟨hp, rfl⟩)⟩
    unfold putU
    dsimp only
    rw [(KeyE.nest hp k).2.1, kvD_len, decide_eq_true hl, putN_kv hp]
    rfl
theorem pairsOf_kv : ∀ kvs : List (κ × ν), pairsOf (kvs.map toD) = some (kvD kvs)
  | [] => rfl
  | p :: r => by
    show pairsOf (.tup [toD p.1, toD p.2] :: r.map toD) = some ((toD p.1, toD p.2) :: kvD r)
    unfold pairsOf
    rw [pairsOf_kv r]
    rfl
theorem dictOf_kv (kvs : List (κ × ν)) : ∃ u, dictOf (kvD kvs) = some u ∧ IsDic u (mergeT [] kvs) := by
  unfold dictOf
  cases kvs with
  | nil => exact ⟨.dct [], rfl, .inl ⟨rfl, rfl⟩⟩
  | cons p r =>
    cases hp : KeyE.pk κ with
    | true =>
      have e : (kvD (p :: r)).all (fun p => isKey p.1) = true := List.all_eq_true.mpr fun q hq => by
        obtain ⟨a, _, rfl⟩ := List.mem_map.mp hq
        exact (KeyE.plain hp a.1).1
      rw [e]
      exact ⟨_, rfl, .inr (.inl ⟨hp, congrArg D.dct (mergeD_kv hp (p :: r) [])⟩)⟩
    | false =>
      have e : (kvD (p :: r)).all (fun p => isKey p.1) = false := by
        show (isKey (toD p.1) && _) = false
        rw [(KeyE.nest hp p.1).1]; rfl
      have e2 : (kvD (p :: r)).all (fun p => isKeyN p.1) = true := List.all_eq_true.mpr fun q hq => by
        obtain ⟨a, _, rfl⟩ := List.mem_map.mp hq
        exact (KeyE.nest hp a.1).2.1
      rw [e, e2]
      exact ⟨_, rfl, .inr (.inr ⟨hp, congrArg D.dcn (mergeN_kv hp (p :: r) [])⟩)⟩
theorem dict_of (S : Sto) (kvs : List (κ × ν)) : ∃ u, gDict S [.lst (kvs.map toD)] = some u ∧ gDict S [.tup (kvs.map toD)] = some u ∧ IsDic u (mergeT [] kvs) := by
  obtain ⟨u, h1, h2⟩ := dictOf_kv kvs
  refine ⟨u, ?_, ?_, h2⟩
  · show (pairsOf (kvs.map toD)).bind dictOf = some u
    rw [pairsOf_kv]; exact h1
  · show (pairsOf (kvs.map toD)).bind dictOf = some u
    rw [pairsOf_kv]; exact h1
/-- the pairs of a dict that is walked -/
theorem dic_items {S : Sto} {j : Nat} {u : D} {kvs : List (κ × ν)} (h : IsDic u kvs) (hj : S[j]? = some u) : lckOf (S.set j (.lck u)) (.ptr j) = some (kvD kvs) := by
  have hlt := (List.getElem?_eq_some_iff.mp hj).1
  unfold lckOf
  dsimp only
  rw [List.getElem?_set_self hlt]
  rcases h with ⟨rfl, rfl⟩ | ⟨_, rfl⟩ | ⟨_, rfl⟩ <;> rfl
theorem dic_itemsOf {S : Sto} {j : Nat} {u : D} {kvs : List (κ × ν)} (h : IsDic u kvs) (hj : S[j]? = some u) : itemsOf (deref S (.ptr j)) = some (kvs.map toD) := by
  rw [dic_deref h hj]
  have e : (kvD kvs).map (fun p => D.tup [p.1, p.2]) = kvs.map toD := by unfold kvD; rw [List.map_map]; rfl
  rcases h with ⟨rfl, rfl⟩ | ⟨_, rfl⟩ | ⟨_, rfl⟩
  · rfl
  · show some _ = some _; rw [e]
  · show some _ = some _; rw [e]
end
end DL

set_option Elab.async false
set_option linter.all false
set_option maxRecDepth 100000
set_option maxHeartbeats 4000000
set_option autoImplicit false
/-! Plain tools, for every law. -/
namespace DL
open PySem L2
open Emb
theorem closedL_iff {n : Nat} : ∀ {xs : List D}, closedL n xs = true ↔ ∀ (i : Nat) (x : D), xs[i]? = some x → D.closed n x = true
  | [] => ⟨fun _ i x h => by simp at h, fun _ => rfl⟩
  | a :: r => by
    unfold closedL
    rw [Bool.and_eq_true, closedL_iff (xs := r)]
    constructor
    · rintro ⟨h1, h2⟩ i x hx
      cases i with
      | zero => simp at hx; subst hx; exact h1
      | succ i => exact h2 i x (by simpa using hx)
    · intro h
      exact ⟨h 0 a rfl, fun i x hx => h (i + 1) x (by simpa using hx)⟩
theorem take_app {S : Sto} {a : D} : (S ++ [a]).take S.length = S := List.take_left' rfl
theorem set_app {S : Sto} {a b : D} : (S ++ [a]).set S.length b = S ++ [b] := by
  rw [List.set_append_right _ _ (Nat.le_refl _), Nat.sub_self]
  rfl
theorem get_app {S : Sto} {a : D} : (S ++ [a])[S.length]? = some a := by
  rw [List.getElem?_append_right (Nat.le_refl _), Nat.sub_self]
  rfl
theorem deref_app {S : Sto} {xs : List D} : deref (S ++ [.lst xs]) (.ptr S.length) = .lst xs := by
  unfold deref
  dsimp only
  rw [List.getD_eq_getElem?_getD, get_app]
  rfl
/-- a def that drops what it made -/
theorem m_defJ {n : Nat} {b : RS} {ds : List D} {S : Sto} {d : D} (hS : Sane S) (hd : D.closed S.length d = true) (h : (b (ds.map some ++ List.replicate (n - ds.length) none) S).post NoS (fun z S1 => z = d ∧ S1.take S.length = S) NoS NoS) : mDef n b ds S = .ok d S :=
  same_of (m_def (h.mono (fun _ _ z => z.elim) (fun z S1 ⟨e1, e2⟩ => by
    rw [e1, hd, e2, show closedL S.length S = true from hS]
    exact ⟨rfl, rfl, rfl⟩) (fun _ _ z => z) (fun _ _ z => z)))
theorem p_sortSet {a : RE} {δ : Sl} {S : Sto} {Q : D → Sto → Prop} (h : (a δ S).post fun d S1 => ∃ ts : List Str, deref S1 d = .lst (ts.map .str) ∧ ts.length + 1 < scanBound ∧ ts.length ≤ sizeLine ∧ Q (.lst ((setT ts).map .str)) S1) : (rSortSet a δ S).post Q :=
  p_bind (h.mono fun d S1 ⟨ts, e, h1, h2, q⟩ => by
    rw [e]
    dsimp only
    have as : ∀ xs : List Str, asStrs (xs.map D.str) = some xs := fun xs => by
      induction xs with
      | nil => rfl
      | cons x xs ih => unfold List.map asStrs; rw [ih]; rfl
    rw [as ts]
    dsimp only
    rw [if_pos ⟨h1, h2⟩]
    exact q)
theorem p_append {δ : Sl} {S S0 : Sto} {x e : RE} {xs : List D} {Q : D → Sto → Prop} (h : (x δ S).post fun d S1 => d = .ptr S0.length ∧ S1 = S0 ++ [.lst xs] ∧ xs.length < sizeLine ∧ (e δ S1).post fun y S2 => S2 = S1 ∧ Q .non (S0 ++ [.lst (xs ++ [y])])) : (rMeth "list" mAppend x (rCons e rNil) δ S).post Q := by
  refine p_meth (h.mono fun d S1 ⟨e1, e2, e3, q⟩ => ?_)
  subst e1
  subst e2
  refine ⟨?_, ?_⟩
  · unfold isTy
    rw [deref_app]
    rfl
  · refine p_cons (q.mono fun y S2 ⟨e4, q2⟩ => p_nil ?_)
    subst e4
    refine ⟨.non, S0 ++ [.lst (xs ++ [y])], ?_, q2⟩
    unfold mAppend
    dsimp only
    rw [get_app]
    dsimp only
    rw [if_pos e3, set_app]
theorem o_getU {S : Sto} {k : Nat} {q v : D} {kvs : List (D × D)} {Q : D → Sto → Prop} (h : S[k]? = some (.dct kvs)) (hq : isKey q = true) (e : lookD kvs q = some v) (f : Q v S) : (Res.lift (gGetU S (.ptr k) q) S).post Q :=
  p_lift (by
    have hd : deref S (.ptr k) = .dct kvs := by
      unfold deref
      dsimp only
      rw [show S.getD k .non = .dct kvs by rw [List.getD_eq_getElem?_getD, h]; rfl]
    unfold gGetU lookU
    rw [hd]
    dsimp only
    rw [if_pos hq, e]) f
theorem s_putU {δ : Sl} {S : Sto} {d k v : RE} {N B C : Sl → Sto → Prop} {T : D → Sto → Prop} (h : (v δ S).post fun z S1 => (d δ S1).post fun x S2 => (k δ S2).post fun y S3 => ∃ n u u', x = .ptr n ∧ S3[n]? = some u ∧ putU u y z = some u' ∧ N δ (S3.set n u')) : (sPutU d k v δ S).post N T B C :=
  p_out (h.mono fun z S1 q => p_out (q.mono fun x S2 q => p_out (q.mono fun y S3 ⟨n, u, u', e1, e2, e3, q'⟩ => by
    subst e1
    dsimp only
    rw [e2]
    dsimp only
    rw [e3]
    exact q')))
theorem s_setL {δ : Sl} {S : Sto} {d k v : RE} {N B C : Sl → Sto → Prop} {T : D → Sto → Prop} (h : (v δ S).post fun z S1 => (d δ S1).post fun x S2 => (k δ S2).post fun y S3 => ∃ n i xs j, x = .ptr n ∧ y = .int i ∧ S3[n]? = some (.lst xs) ∧ ixN xs.length i = some j ∧ N δ (S3.set n (.lst (xs.set j z)))) : (sSetL d k v δ S).post N T B C :=
  p_out (h.mono fun z S1 q => p_out (q.mono fun x S2 q => p_out (q.mono fun y S3 ⟨n, i, xs, j, e1, e2, e3, e4, q'⟩ => by
    subst e1
    subst e2
    dsimp only
    rw [e3]
    dsimp only
    rw [e4]
    exact q')))
theorem deref_at {S : Sto} {k : Nat} {xs : List D} (h : S[k]? = some (.lst xs)) : deref S (.ptr k) = .lst xs := by
  unfold deref
  dsimp only
  rw [show S.getD k .non = .lst xs by rw [List.getD_eq_getElem?_getD, h]; rfl]
theorem set_ints {rs : List Int} {j : Nat} {z : Int} : (rs.map D.int).set j (.int z) = (rs.set j z).map D.int := by rw [List.map_set]
theorem closed_ints' {m : Nat} : ∀ ns : List Int, closedL m (ns.map D.int) = true
  | [] => rfl
  | _ :: r => by unfold List.map closedL; rw [closed_ints' r]; rfl
theorem pow6 {δ : Sl} {S : Sto} {Q : D → Sto → Prop} {n : Nat} (hn : n ≤ 1000) (h : Q (.int (10 ^ n)) S) : (Res.lift (gPow S (.int 10) (.int n)) S).post Q := o_pow ⟨by omega, by omega, by decide⟩ (by
  have e : (n : Int).toNat = n := by omega
  rw [e]; exact h)
theorem p_get2 {a k x : RE} {δ : Sl} {S : Sto} {Q : D → Sto → Prop} (h : (a δ S).post fun d S1 => isDct S1 d = true ∧ (k δ S1).post fun q S2 => (x δ S2).post fun z S3 => ∃ o, lookU S3 d q = some o ∧ Q (o.getD z) S3) : (rGet2 a k x δ S).post Q :=
  p_bind (h.mono fun d S1 ⟨e, q⟩ => by
    rw [if_pos e]
    exact p_bind (q.mono fun y S2 q => p_bind (q.mono fun z S3 ⟨o, e2, q⟩ => p_lift (by rw [e2]; rfl) q)))
theorem deref_d {S : Sto} {k : Nat} {kvs : List (D × D)} (h : S[k]? = some (.dct kvs)) : deref S (.ptr k) = .dct kvs := by
  unfold deref
  dsimp only
  rw [show S.getD k .non = .dct kvs by rw [List.getD_eq_getElem?_getD, h]; rfl]
theorem p_items {a : RE} {δ : Sl} {S : Sto} {Q : List D → Sto → Prop} (h : (a δ S).post fun d S1 => ∃ kvs, lckOf S1 d = some kvs ∧ Q (pairsD kvs) S1) : (rItems a δ S).post Q := p_bind (h.mono fun d S1 ⟨kvs, e, q⟩ => p_lift (by rw [e]; rfl) q)
theorem s_freeze {i : Nat} {δ : Sl} {S S0 : Sto} {xs : List D} {N B C : Sl → Sto → Prop} {T : D → Sto → Prop} (e : δ[i]? = some (some (.ptr S0.length))) (es : S = S0 ++ [.lst xs]) (h : N (δ.set i (some (.lst xs))) (S0 ++ [.non])) : (sFreeze i δ S).post N T B C := by
  unfold sFreeze
  rw [e]
  dsimp only
  subst es
  rw [get_app]
  dsimp only
  rw [set_app]
  exact h
theorem not_t {b : Bool} (h : (!b) = true) : b = false := by
  cases b
  · rfl
  · cases h
theorem not_f {b : Bool} (h : (!b) = false) : b = true := by
  cases b
  · cases h
  · rfl
theorem s_lockN {i k : Nat} {δ : Sl} {S : Sto} {u : D} {r : RS} {N B C : Sl → Sto → Prop} {T : D → Sto → Prop} (e : δ[i]? = some (some (.ptr k))) (hk : S[k]? = some u) (hu : (∃ kvs, u = .dct kvs) ∨ ∃ kvs, u = .dcn kvs)
    (h : (r δ (S.set k (.lck u))).post (fun δ' S1 => S1[k]? = some (.lck u) ∧ N δ' (S1.set k u)) (fun z S1 => S1[k]? = some (.lck u) ∧ T z (S1.set k u)) NoS NoS) : (sLock i r δ S).post N T B C := by
  have hL : lockAt δ S i = some (k, u) := by
    unfold lockAt
    rw [e]
    dsimp only
    rw [hk]
    rcases hu with ⟨kvs, rfl⟩ | ⟨kvs, rfl⟩ <;> rfl
  unfold sLock
  rw [hL]
  dsimp only
  cases q : r δ (S.set k (.lck u)) with
  | rt z S1 =>
    rw [q] at h
    obtain ⟨h1, hT⟩ : S1[k]? = some (.lck u) ∧ T z (S1.set k u) := h
    unfold unlkO unlk
    dsimp only
    rw [h1]
    exact hT
  | nx δ' S1 =>
    rw [q] at h
    obtain ⟨h1, hT⟩ : S1[k]? = some (.lck u) ∧ N δ' (S1.set k u) := h
    unfold unlkO unlk
    dsimp only
    rw [h1]
    exact hT
  | _ => rw [q] at h; exact h.elim
theorem unset {S : Sto} {k : Nat} {u x : D} (hk : S[k]? = some u) : (S.set k x).set k u = S := by
  have hlt := (List.getElem?_eq_some_iff.mp hk).1
  rw [List.set_set]
  have := (List.getElem?_eq_some_iff.mp hk).2
  rw [← this]
  exact List.set_getElem_self hlt
/-- a walk over a locked dict that leaves the store -/
theorem s_lockS {κ ν : Type} [Emb κ] [Emb ν] [DecidableEq κ] [KeyE κ] {i k : Nat} {δ : Sl} {S : Sto} {u : D} {kvs : List (κ × ν)} {r : RS} {N B C : Sl → Sto → Prop} {T : D → Sto → Prop} (hd : IsDic u kvs) (hk : S[k]? = some u) (e : δ[i]? = some (some (.ptr k)))
    (h : (r δ (S.set k (.lck u))).post (fun δ' S1 => S1 = S.set k (.lck u) ∧ N δ' S) (fun z S1 => S1 = S.set k (.lck u) ∧ T z S) NoS NoS) : (sLock i r δ S).post N T B C := by
  have hlt := (List.getElem?_eq_some_iff.mp hk).1
  refine s_lockN e hk (by rcases hd with ⟨_, rfl⟩ | ⟨_, rfl⟩ | ⟨_, rfl⟩ <;> first | exact .inl ⟨_, rfl⟩ | exact .inr ⟨_, rfl⟩) (h.mono ?_ ?_ (fun _ _ z => z) (fun _ _ z => z))
  · rintro δ' S1 ⟨rfl, hN⟩
    exact ⟨List.getElem?_set_self hlt, by rw [unset hk]; exact hN⟩
  · rintro z S1 ⟨rfl, hT⟩
    exact ⟨List.getElem?_set_self hlt, by rw [unset hk]; exact hT⟩
/-- a comprehension over things of a kind, that leaves the store -/
theorem lcT {α β : Type} (ta : α → D) (tb : β → D) (f : α → Option β) {g : RG} {t : RB} {e : RE} {δ : Sl} {S : Sto} : ∀ {xs : List α}, (∀ a ∈ xs, ∃ δ1, g (ta a) δ S = .ok δ1 S ∧ ((f a = none ∧ t δ1 S = .ok false S) ∨ ∃ b, f a = some b ∧ t δ1 S = .ok true S ∧ e δ1 S = .ok (tb b) S)) → lcL g t e (xs.map ta) δ S = .ok ((xs.filterMap f).map tb) S
  | [], _ => rfl
  | x :: xs, h => by
    have ih := lcT ta tb f (g := g) (t := t) (e := e) (δ := δ) (S := S) (xs := xs) fun y hy => h y (List.mem_cons_of_mem _ hy)
    obtain ⟨δ1, h1, h2⟩ := h x List.mem_cons_self
    rw [List.map_cons]
    unfold lcL
    rw [h1]
    show (t δ1 S).bind _ = _
    rw [List.filterMap_cons]
    rcases h2 with ⟨e1, e2⟩ | ⟨y, e1, e2, e3⟩
    · rw [e2, e1]
      exact ih
    · rw [e2, e1]
      show (e δ1 S).bind _ = _
      rw [e3]
      show (lcL g t e (xs.map ta) δ S).bind _ = _
      rw [ih]
      rfl
/-- each turn one thing -/
theorem lcTm {α β : Type} (ta : α → D) (tb : β → D) (f : α → β) {g : RG} {e : RE} {δ : Sl} {S : Sto} {xs : List α} (h : ∀ a ∈ xs, ∃ δ1, g (ta a) δ S = .ok δ1 S ∧ e δ1 S = .ok (tb (f a)) S) : lcL g bYes e (xs.map ta) δ S = .ok ((xs.map f).map tb) S := by
  rw [lcT ta tb (fun a => some (f a)) fun a ha => by
    obtain ⟨δ1, h1, h2⟩ := h a ha
    exact ⟨δ1, h1, .inr ⟨_, rfl, rfl, h2⟩⟩]
  rw [show xs.filterMap (fun a => some (f a)) = xs.map f from congrFun (List.filterMap_eq_map) xs]
/-- each turn the thing itself, or nothing -/
theorem lcTf {α : Type} (ta tb : α → D) (p : α → Bool) {g : RG} {t : RB} {e : RE} {δ : Sl} {S : Sto} {xs : List α} (h : ∀ a ∈ xs, ∃ δ1, g (ta a) δ S = .ok δ1 S ∧ t δ1 S = .ok (p a) S ∧ (p a = true → e δ1 S = .ok (tb a) S)) : lcL g t e (xs.map ta) δ S = .ok ((xs.filter p).map tb) S := by
  rw [lcT ta tb (fun a => if p a = true then some a else none) fun a ha => by
    obtain ⟨δ1, h1, h2, h3⟩ := h a ha
    refine ⟨δ1, h1, ?_⟩
    cases q : p a with
    | true => exact .inr ⟨a, by simp, by rw [h2, q], h3 q⟩
    | false => exact .inl ⟨by simp, by rw [h2, q]⟩]
  congr 2
  clear h
  induction xs with
  | nil => rfl
  | cons x r ih =>
    rw [List.filterMap_cons, List.filter_cons, ih]
    cases p x <;> rfl
/-- a def that drops what it made, told of by its answer's post -/
theorem m_defJQ {n : Nat} {b : RS} {ds : List D} {S : Sto} {Q : D → Sto → Prop} (hS : Sane S) (h : (b (ds.map some ++ List.replicate (n - ds.length) none) S).post NoS (fun z S1 => D.closed S.length z = true ∧ S1.take S.length = S ∧ Q z S) NoS NoS) : (mDef n b ds S).post Q :=
  m_def (h.mono (fun _ _ z => z.elim) (fun z S1 ⟨e1, e2, e3⟩ => by
    rw [e1, e2, show closedL S.length S = true from hS]
    exact ⟨rfl, e3⟩) (fun _ _ z => z) (fun _ _ z => z))
/-- a def that leaves what it made -/
theorem m_defK {n : Nat} {b : RS} {ds : List D} {S : Sto} {Q : D → Sto → Prop} (h : (b (ds.map some ++ List.replicate (n - ds.length) none) S).post (fun _ S1 => Q .non S1) Q NoS NoS) : (mDefK n b ds S).post Q := by
  unfold mDefK
  cases q : b (ds.map some ++ List.replicate (n - ds.length) none) S with
  | nx δ S1 => rw [q] at h; exact h
  | rt d S1 => rw [q] at h; exact h
  | _ => rw [q] at h; exact h.elim
theorem p_sortIt {a : RE} {δ : Sl} {S : Sto} {Q : D → Sto → Prop} (h : (a δ S).post fun d S1 => ∃ xs, (itemsOf (deref S1 d)).bind (sortD S1) = some xs ∧ Q (.lst xs) S1) : (rSortItems a δ S).post Q :=
  p_bind (h.mono fun d S1 ⟨xs, e, q⟩ => p_lift (a := .lst xs) (by rw [e]; rfl) q)
theorem take_le {S S1 : Sto} (hl : S.length ≤ S1.length) (h : ∀ k, k < S.length → S1[k]? = S[k]?) : S1.take S.length = S := by
  refine List.ext_getElem? fun k => ?_
  rw [List.getElem?_take]
  split
  · rename_i hk; exact h k hk
  · rename_i hk; exact (List.getElem?_eq_none (by omega)).symm
theorem app_at {S : Sto} {u : D} {k : Nat} (h : k < S.length) : (S ++ [u])[k]? = S[k]? := List.getElem?_append_left h
/-- the loop's law over things of a kind: I what is left -/
theorem s_forT {α : Type} (ta : α → D) {g : RG} {b : RS} {N B C : Sl → Sto → Prop} {T : D → Sto → Prop} (I : List α → Sl → Sto → Prop) (step : ∀ x xs δ S, I (x :: xs) δ S → (g (ta x) δ S).post fun δ1 S1 => (b δ1 S1).post (fun δ2 S2 => I xs δ2 S2) T N fun δ2 S2 => I xs δ2 S2) (fin : ∀ δ S, I [] δ S → N δ S)
    (xs : List α) (δ : Sl) (S : Sto) (h : I xs δ S) : (forL g b (xs.map ta) δ S).post N T B C :=
  s_forL (fun ds δ S => ∃ xs : List α, ds = xs.map ta ∧ I xs δ S) (fun x ds δ S ⟨xs, e, h⟩ => by
    cases xs with
    | nil => cases e
    | cons y ys =>
      rw [List.map_cons, List.cons.injEq] at e
      obtain ⟨rfl, rfl⟩ := e
      exact (step y ys δ S h).mono fun δ1 S1 q => q.mono (fun _ _ z => ⟨ys, rfl, z⟩) (fun _ _ z => z) (fun _ _ z => z) (fun _ _ z => ⟨ys, rfl, z⟩)) (fun δ S ⟨xs, e, h⟩ => by
    cases xs with
    | nil => exact fin δ S h
    | cons y ys => cases e) (xs.map ta) δ S ⟨xs, rfl, h⟩
section
variable {κ : Type} [Emb κ]
theorem eqv_emb (a b : κ) [DecidableEq κ] (hr : ∀ a : κ, PyData.eqv (py a) (py a) = true) : PyData.eqv (py a) (py b) = decide (a = b) := by
  by_cases h : a = b
  · subst h; rw [hr, decide_eq_true rfl]
  · rw [decide_eq_false h]
    cases q : PyData.eqv (py a) (py b) with
    | false => rfl
    | true => exact absurd (inj _ _ q) h
end
mutual
theorem eqv_refl : ∀ x : PyData, fitP x = true → PyData.eqv x x = true
  | .none, _ => by simp [PyData.eqv]
  | .bool b, _ => by simp [PyData.eqv]
  | .int i, _ => by simp [PyData.eqv]
  | .str x, _ => by simp [PyData.eqv]
  | .list xs, h => by simp only [PyData.eqv]; exact eqvs_refl xs (by unfold fitP at h; exact h)
  | .tuple xs, h => by simp only [PyData.eqv]; exact eqvs_refl xs (by unfold fitP at h; exact h)
  | .dict _, h => by unfold fitP at h; cases h
theorem eqvs_refl : ∀ xs : List PyData, fitPs xs = true → PyData.eqvAll xs xs = true
  | [], _ => by simp [PyData.eqvAll]
  | x :: r, h => by
    unfold fitPs at h
    rw [Bool.and_eq_true] at h
    simp only [PyData.eqvAll, eqv_refl x h.1, eqvs_refl r h.2, Bool.and_self]
end
end DL

set_option Elab.async false
set_option linter.all false
set_option maxRecDepth 100000
set_option maxHeartbeats 4000000
set_option autoImplicit false
/-! Products of boxes, kinds, fractions: typed. -/
namespace DL
open PySem L2
open Emb
/-! ### fractions -/
instance : Emb Rat where
  toD := fun q => .tup [.int q.num, .int q.den]
  py := fun q => .tuple [.int q.num, .int q.den]
  deg := 1
  pyOk := fun _ _ => rfl
  np := fun _ _ h => nomatch h
  al := fun a b => by simp [PySem.W.alike, PySem.W.alikeAll]
  dep := fun a => by simp [PyData.depth, PyData.depthAll]
  inj := fun a b h => by
    simp only [PyData.eqv, PyData.eqvAll, Bool.and_eq_true, beq_iff_eq] at h
    exact Rat.ext h.1 (Int.ofNat.inj h.2.1)
  cl := fun _ _ => rfl
theorem rat_nd (q : Rat) : (q.num : Rat) / ((q.den : Nat) : Rat) = q := by
  have h := Rat.num_divInt_den q
  rw [Rat.divInt_eq_div] at h
  exact_mod_cast h
theorem toD_rat (q : Rat) : (toD q : D) = .tup [.int q.num, .int q.den] := rfl
theorem rat_of {a b : Int} (hb : 0 < b) : ((a : Rat) / (b : Rat)).num = a.fdiv (Int.gcd a b) ∧ (((a : Rat) / (b : Rat)).den : Int) = b.fdiv (Int.gcd a b) := by
  have hg : 0 < Int.gcd a b := Int.gcd_pos_of_ne_zero_right _ (by omega)
  have d1 : (Int.gcd a b : Int) ∣ a := Int.gcd_dvd_left ..
  have d2 : (Int.gcd a b : Int) ∣ b := Int.gcd_dvd_right ..
  rw [Int.fdiv_eq_ediv_of_nonneg _ (by omega), Int.fdiv_eq_ediv_of_nonneg _ (by omega)]
  have y0 : 0 < b / (Int.gcd a b : Int) := Int.ediv_pos_of_pos_of_dvd hb (by omega) d2
  have cop : Int.gcd (a / (Int.gcd a b : Int)) (b / (Int.gcd a b : Int)) = 1 := by
    have := Int.gcd_ediv d1 d2
    rw [this]
    exact Nat.div_self (by simpa using hg)
  obtain ⟨n, hn⟩ : ∃ n : Nat, b / (Int.gcd a b : Int) = n := ⟨(b / (Int.gcd a b : Int)).toNat, by omega⟩
  have hn0 : n ≠ 0 := by omega
  have hc : (a / (Int.gcd a b : Int)).natAbs.Coprime n := by
    unfold Nat.Coprime
    rw [hn] at cop
    exact cop
  have e : (a : Rat) / (b : Rat) = Rat.mk' (a / (Int.gcd a b : Int)) n hn0 hc := by
    have h1 := rat_nd (Rat.mk' (a / (Int.gcd a b : Int)) n hn0 hc)
    have h1 : ((a / (Int.gcd a b : Int) : Int) : Rat) / ((n : Nat) : Rat) = Rat.mk' (a / (Int.gcd a b : Int)) n hn0 hc := h1
    rw [← h1]
    have hb' : (b : Rat) ≠ 0 := by simp; omega
    have hn' : (n : Rat) ≠ 0 := by simp; omega
    have hx : a * (n : Int) = (a / (Int.gcd a b : Int)) * b := by
      rw [← hn]
      obtain ⟨x, hx⟩ := d1
      obtain ⟨y, hy⟩ := d2
      have hgg : (Int.gcd a b : Int) ≠ 0 := by omega
      generalize (Int.gcd a b : Int) = g at *
      subst hx; subst hy
      rw [Int.mul_ediv_cancel_left _ hgg, Int.mul_ediv_cancel_left _ hgg]
      grind
    have hx' : (a : Rat) * (n : Rat) = ((a / (Int.gcd a b : Int) : Int) : Rat) * (b : Rat) := by exact_mod_cast hx
    generalize ((a / (Int.gcd a b : Int) : Int) : Rat) = z at *
    grind
  rw [e]
  exact ⟨rfl, hn.symm⟩
theorem rat_add (x y : Rat) : x + y = ((x.num * y.den + y.num * x.den : Int) : Rat) / ((x.den * y.den : Int) : Rat) := by
  have h1 := rat_nd x
  have h2 := rat_nd y
  have hx : ((x.den : Nat) : Rat) ≠ 0 := by have := x.den_nz; simp; omega
  have hy : ((y.den : Nat) : Rat) ≠ 0 := by have := y.den_nz; simp; omega
  have e1 : ((x.num * y.den + y.num * x.den : Int) : Rat) = (x.num : Rat) * (y.den : Rat) + (y.num : Rat) * (x.den : Rat) := by push_cast; rfl
  have e2 : ((x.den * y.den : Int) : Rat) = (x.den : Rat) * (y.den : Rat) := by push_cast; rfl
  rw [e1, e2]
  generalize (x.num : Rat) = a at *
  generalize (y.num : Rat) = b at *
  generalize (x.den : Rat) = c at *
  generalize (y.den : Rat) = d at *
  subst h1; subst h2
  grind
theorem rat_mul (x y : Rat) : x * y = ((x.num * y.num : Int) : Rat) / ((x.den * y.den : Int) : Rat) := by
  have h1 := rat_nd x
  have h2 := rat_nd y
  have hx : ((x.den : Nat) : Rat) ≠ 0 := by have := x.den_nz; simp; omega
  have hy : ((y.den : Nat) : Rat) ≠ 0 := by have := y.den_nz; simp; omega
  have e1 : ((x.num * y.num : Int) : Rat) = (x.num : Rat) * (y.num : Rat) := by push_cast; rfl
  have e2 : ((x.den * y.den : Int) : Rat) = (x.den : Rat) * (y.den : Rat) := by push_cast; rfl
  rw [e1, e2]
  generalize (x.num : Rat) = a at *
  generalize (y.num : Rat) = b at *
  generalize (x.den : Rat) = c at *
  generalize (y.den : Rat) = d at *
  subst h1; subst h2
  grind
/-- not greater than B, above and below -/
def RB' (B : Nat) (q : Rat) : Prop := q.num.natAbs ≤ B ∧ q.den ≤ B
theorem rb_of {a b : Int} {B : Nat} (hb : 0 < b) (ha : a.natAbs ≤ B) (hb2 : b.natAbs ≤ B) : RB' B ((a : Rat) / (b : Rat)) := by
  obtain ⟨h1, h2⟩ := rat_of (a := a) hb
  have hg : 0 < Int.gcd a b := Int.gcd_pos_of_ne_zero_right _ (by omega)
  have bd : ∀ (z : Int), (Int.fdiv z (Int.gcd a b)).natAbs ≤ z.natAbs := fun z => by
    rw [Int.fdiv_eq_ediv_of_nonneg _ (by omega)]
    exact Int.natAbs_ediv_le_natAbs z _
  refine ⟨by rw [h1]; exact Nat.le_trans (bd a) ha, ?_⟩
  have := Nat.le_trans (bd b) hb2
  rw [← h2] at this
  simpa using this
theorem rb_mono {B C : Nat} {q : Rat} (h : RB' B q) (hc : B ≤ C) : RB' C q := ⟨Nat.le_trans h.1 hc, Nat.le_trans h.2 hc⟩
theorem rb_add {A B : Nat} {x y : Rat} (hx : RB' A x) (hy : RB' B y) : RB' (2 * (A * B)) (x + y) := by
  rw [rat_add]
  have hp : (0 : Int) < x.den * y.den := by
    have := x.den_pos
    have := y.den_pos
    exact Int.mul_pos (by omega) (by omega)
  refine rb_of hp ?_ ?_
  · have h1 : (x.num * y.den).natAbs ≤ A * B := by rw [Int.natAbs_mul]; exact Nat.mul_le_mul hx.1 (by simpa using hy.2)
    have h2 : (y.num * x.den).natAbs ≤ A * B := by rw [Int.natAbs_mul, Nat.mul_comm]; exact Nat.mul_le_mul (by simpa using hx.2) hy.1
    omega
  · have : ((x.den * y.den : Int)).natAbs ≤ A * B := by rw [Int.natAbs_mul]; exact Nat.mul_le_mul (by simpa using hx.2) (by simpa using hy.2)
    omega
theorem rb_mul {A B : Nat} {x y : Rat} (hx : RB' A x) (hy : RB' B y) : RB' (A * B) (x * y) := by
  rw [rat_mul]
  have hp : (0 : Int) < x.den * y.den := by
    have := x.den_pos
    have := y.den_pos
    exact Int.mul_pos (by omega) (by omega)
  refine rb_of hp ?_ ?_
  · rw [Int.natAbs_mul]; exact Nat.mul_le_mul hx.1 hy.1
  · rw [Int.natAbs_mul]; exact Nat.mul_le_mul (by simpa using hx.2) (by simpa using hy.2)
theorem rat_num0 {q : Rat} : q.num = 0 ↔ q = 0 := Rat.num_eq_zero
/-! ### products of boxes, kinds -/
abbrev Mono := List (Str × Int)
structure Kind where
  m : Mono
  p : Int
  b : Int
  deriving DecidableEq
instance : Emb Kind where
  toD := fun k => .tup [toD k.m, .int k.p, .int k.b]
  py := fun k => .tuple [py k.m, .int k.p, .int k.b]
  deg := deg Mono + 1
  pyOk := fun S k => by unfold toPy toPys toPys toPys toPys; rw [pyOk]; rfl
  np := fun _ _ h => nomatch h
  al := fun a b => by simp [PySem.W.alike, PySem.W.alikeAll, al]
  dep := fun a => by
    have h1 := dep a.m
    simp only [PyData.depth, PyData.depthAll]
    omega
  inj := fun a b h => by
    simp only [PyData.eqv, PyData.eqvAll, Bool.and_eq_true, beq_iff_eq] at h
    have h1 := inj _ _ h.1
    obtain ⟨_, _, _⟩ := a
    obtain ⟨_, _, _⟩ := b
    simp only [Kind.mk.injEq]
    exact ⟨h1, h.2.1, h.2.2.1⟩
  cl := fun n k => by unfold D.closed closedL closedL closedL closedL; rw [cl]; rfl
theorem toD_kind (k : Kind) : (toD k : D) = .tup [toD k.m, .int k.p, .int k.b] := rfl
instance : NkE Kind where
  nk := fun k => .tup [NkE.nk k.m, .num k.p, .num k.b]
  nkOk := fun k => by
    show keyN (.tup [toD k.m, .int k.p, .int k.b]) = _
    unfold keyN keyNs keyNs keyNs keyNs
    rw [NkE.nkOk]; unfold keyN; rfl
  nkInj := fun a b h => by
    simp only [NestedKey.tup.injEq, List.cons.injEq, NestedKey.num.injEq] at h
    have h1 := NkE.nkInj _ _ h.1
    obtain ⟨_, _, _⟩ := a
    obtain ⟨_, _, _⟩ := b
    simp only [Kind.mk.injEq]
    exact ⟨h1, h.2.1, h.2.2.1⟩
  kdeg := NkE.kdeg Mono + 1
  nkDep := fun a => by
    have h1 := NkE.nkDep a.m
    simp only [NestedKey.depth, NestedKey.depthAll]
    omega
instance : KeyE Mono where
  pk := false
  plain := fun h => nomatch h
  nest := fun _ a => nest_of (fun a => ⟨_, rfl⟩) (by decide) a
instance : KeyE Kind where
  pk := false
  plain := fun h => nomatch h
  nest := fun _ a => nest_of (fun a => ⟨_, rfl⟩) (by decide) a
instance : Sok (Str × Int) := ⟨.inl fun _ => rfl, by decide⟩
instance : Sok (Mono × Int) := ⟨.inl fun _ => rfl, by decide⟩
instance : Sok (Mono × Rat) := ⟨.inl fun _ => rfl, by decide⟩
instance : Sok (Kind × Rat) := ⟨.inl fun _ => rfl, by decide⟩
/-- kinds of unlike products of boxes -/
theorem ltE_kind {j k : Kind} (h : j.m ≠ k.m) : ltE j k = ltE j.m k.m := by
  unfold ltE
  show PySem.W.dataLt (.tuple (py j.m :: [.int j.p, .int j.b])) (.tuple (py k.m :: [.int k.p, .int k.b])) = _
  rw [PySem.W.dataLt_tuple, PySem.W.dataLt_cons (al _ _)]
  have : PyData.eqv (py j.m) (py k.m) = false := by
    cases e : PyData.eqv (py j.m) (py k.m) with
    | false => rfl
    | true => exact absurd (inj _ _ e) h
  rw [this]
  rfl
end DL

set_option Elab.async false
set_option linter.all false
set_option maxRecDepth 100000
set_option maxHeartbeats 4000000
set_option autoImplicit false
/-! Draws: the state, numbers, fractions. -/
namespace DL
open PySem L2
open Emb
local macro_rules | `(tactic| walk_at "1") => `(tactic| with_reducible first
  | refine s_seq ?_ | refine s_asg ?_ | refine s_ret ?_ | refine s_if ?_ | refine s_expr ?_ | refine s_next ?_ | refine s_brk ?_ | refine s_cont ?_ | refine s_for ?_ | refine s_while ?_
  | refine p_c ?_ | refine p_bin ?_ | refine p_as ?_ | refine p_cons ?_ | refine p_nil ?_ | refine p_un ?_ | refine p_call ?_ | refine p_if ?_ | refine p_own ?_
  | refine p_keep ?_ | refine p_tru ?_ | refine p_and ?_ | refine p_or ?_ | refine p_not ?_ | refine p_val ?_ | refine p_rand ?_ | refine p_ror ?_ | refine p_rnot ?_ | refine p_chain ?_ | refine p_bif ?_
  | refine o_add ?_ | refine o_sub ?_ | refine o_ltU ?_ | refine o_leU ?_ | refine o_gtU ?_ | refine o_geU ?_ | refine o_neg ?_ | refine o_eqI ?_ | refine o_neI ?_ | refine o_abs ?_ | refine o_tru ?_ | refine p_true ?_ | refine p_false ?_
  | refine o_lenT ?_ | refine o_lenL ?_
  | refine s_par ?_ | refine p_yes ?_ | refine p_lc ?_ | refine p_seq ?_ | refine s_gnil ?_ | refine s_gcons ?_ | refine s_gtux ?_ | refine p_onone ?_ | refine p_osome ?_)
local macro_rules | `(tactic| walk_at "2") => `(tactic| first
  | walk_at "1"
  | (with_reducible refine p_var2 ?_)
  | ((with_reducible refine s_name ?_ ?_); (· exact Nat.le_of_ble_eq_true rfl); dsimp only [List.set_cons_zero, List.set_cons_succ])
  | (with_reducible refine p_tup ?_) | ((with_reducible refine ⟨?_, ?_⟩); (· exact Nat.le_of_ble_eq_true rfl))
  | ((with_reducible refine p_ex2 (x := ?_) (y := ?_) ?_ ?_); rotate_left; rotate_left; (· rfl); refine ⟨?_, ?_, ?_⟩; (· exact Nat.le_of_ble_eq_true rfl); (· exact Nat.le_of_ble_eq_true rfl); dsimp only [List.set_cons_zero, List.set_cons_succ])
  | ((with_reducible refine p_isT ?_ ?_); (· rfl)) | ((with_reducible refine p_isF ?_ ?_); (· rfl))
  | ((with_reducible refine p_ex (x := ?_) ?_ ?_); rotate_left; (· rfl)))
local macro_rules | `(tactic| walk_at "3") => `(tactic| repeat (first | walk_at "2" | (with_reducible refine p_lst ?_)))
def stD (ns : List Int) (a : Int) : D := .dct [(.str "script", .lst (ns.map .int)), (.str "at", .int a), (.str "rest", .ptr 0)]
theorem stD_closed {n : Nat} (hn : 0 < n) (ns : List Int) (a : Int) : D.closed n (stD ns a) = true := by
  unfold stD D.closed closedK closedK closedK closedK D.closed
  rw [closed_ints' ns]
  simp
  exact hn
/-- the state of the draws: slots 0 and 1 of the store -/
structure Sta (c : Nat) (S : Sto) : Prop where
  ex : ∃ (ns rs : List Int) (a : Int), S[0]? = some (.lst (rs.map .int)) ∧ S[1]? = some (stD ns a) ∧ rs.length = ns.length ∧ 0 ≤ a ∧ a ≤ c
  sane : Sane S
/-- on to another store: the state goes on, all else stays -/
structure Go (c : Nat) (S S' : Sto) : Prop where
  sta : Sta c S'
  len : S'.length = S.length
  rest : ∀ k, 2 ≤ k → S'[k]? = S[k]?
theorem Sta.le {c c' : Nat} {S : Sto} (h : Sta c S) (hc : c ≤ c') : Sta c' S := by
  obtain ⟨ns, rs, a, h1, h2, h3, h4, h5⟩ := h.ex
  exact ⟨⟨ns, rs, a, h1, h2, h3, h4, by omega⟩, h.sane⟩
theorem Sta.len {c : Nat} {S : Sto} (h : Sta c S) : 2 ≤ S.length := by
  obtain ⟨ns, rs, a, h1, h2, _⟩ := h.ex
  have := (List.getElem?_eq_some_iff.mp h2).1
  omega
theorem Go.trans {c c' : Nat} {S S1 S2 : Sto} (h : Go c S S1) (g : Go c' S1 S2) : Go c' S S2 := ⟨g.sta, g.len.trans h.len, fun k hk => (g.rest k hk).trans (h.rest k hk)⟩
theorem Go.refl {c : Nat} {S : Sto} (h : Sta c S) : Go c S S := ⟨h, rfl, fun _ _ => rfl⟩
theorem Go.le {c c' : Nat} {S S' : Sto} (h : Go c S S') (hc : c ≤ c') : Go c' S S' := ⟨h.sta.le hc, h.len, h.rest⟩
/-- more is made behind -/
theorem Sta.app {c : Nat} {S : Sto} {u : D} (h : Sta c S) (hu : D.closed (S.length + 1) u = true) : Sta c (S ++ [u]) := by
  obtain ⟨ns, rs, a, h1, h2, h3, h4, h5⟩ := h.ex
  have l := h.len
  exact ⟨⟨ns, rs, a, by rw [List.getElem?_append_left (by omega)]; exact h1, by rw [List.getElem?_append_left (by omega)]; exact h2, h3, h4, h5⟩, sane_app h.sane hu⟩
/-- the mixing -/
theorem mixed_post {ns : List Int} {a many : Int} {S : Sto} {o4 : Option D} (hS : Sane S) (h0 : 0 ≤ a) (h1 : a < 2 ^ 60) (hm : 0 < many) {T : D → Sto → Prop} (hT : ∀ i, 0 ≤ i → i < many → T (.int i) S) :
    ((sSeq (sAsg (rIf (bVal (rBin gNe (rVar 3) (rKeep (rLst rNil)))) (rBin gIx (rVar 3) (rBin gMod (rVar 2) (rAs gLen (rCons (rVar 3) rNil)))) (rC (.int 0))) (gName 5))
    (sSeq (sAsg (rBin gMod (rBin gAdd (rBin gAdd (rBin gMul (rBin gMod (rVar 5) (rC (.int 2147483629))) (rC (.int 48271))) (rBin gMul (rBin gMul (rC (.int 69621)) (rVar 2)) (rVar 2))) (rC (.int 104729))) (rC (.int 2147483647))) (gName 6))
    (sSeq (sAsg (rBin gMod (rBin gMul (rVar 6) (rBin gAdd (rC (.int 16807)) (rBin gMul (rC (.int 2)) (rVar 2)))) (rC (.int 2147483629))) (gName 6))
    (sRet (rBin gMod (rBin gDiv (rBin gMod (rBin gMul (rVar 6) (rVar 6)) (rC (.int 1000000007))) (rC (.int 7))) (rVar 1)))))) [some (.ptr 1), some (.int many), some (.int a), some (.lst (ns.map .int)), o4, none, none] S).post NoS T NoS NoS := by
  have tail : ∀ cell : Int, ((sSeq (sAsg (rBin gMod (rBin gAdd (rBin gAdd (rBin gMul (rBin gMod (rVar 5) (rC (.int 2147483629))) (rC (.int 48271))) (rBin gMul (rBin gMul (rC (.int 69621)) (rVar 2)) (rVar 2))) (rC (.int 104729))) (rC (.int 2147483647))) (gName 6))
    (sSeq (sAsg (rBin gMod (rBin gMul (rVar 6) (rBin gAdd (rC (.int 16807)) (rBin gMul (rC (.int 2)) (rVar 2)))) (rC (.int 2147483629))) (gName 6))
    (sRet (rBin gMod (rBin gDiv (rBin gMod (rBin gMul (rVar 6) (rVar 6)) (rC (.int 1000000007))) (rC (.int 7))) (rVar 1))))) [some (.ptr 1), some (.int many), some (.int a), some (.lst (ns.map .int)), o4, some (.int cell), none] S).post NoS T NoS NoS := by
    intro cell
    repeat walk_at "2"
    refine o_mod (by decide) ?_
    repeat walk_at "2"
    refine o_mul (fits_r (by decide)) ?_
    repeat walk_at "2"
    refine o_mul (fits_l (by decide)) ?_
    repeat walk_at "2"
    refine o_mul (fits_r (by omega)) ?_
    repeat walk_at "2"
    refine o_mod (by decide) ?_
    generalize hx : (Int.fmod _ 2147483647 : Int) = x
    have x0 : 0 ≤ x ∧ x < 2147483647 := by
      rw [← hx, Int.fmod_eq_emod_of_nonneg _ (by decide)]
      exact ⟨Int.emod_nonneg _ (by decide), Int.emod_lt_of_pos _ (by decide)⟩
    repeat walk_at "2"
    refine o_mul (fits_l (by decide)) ?_
    repeat walk_at "2"
    refine o_mul (fits_l (by omega)) ?_
    repeat walk_at "2"
    refine o_mod (by decide) ?_
    generalize hy : (Int.fmod _ 2147483629 : Int) = y
    have y0 : 0 ≤ y ∧ y < 2147483629 := by
      rw [← hy, Int.fmod_eq_emod_of_nonneg _ (by decide)]
      exact ⟨Int.emod_nonneg _ (by decide), Int.emod_lt_of_pos _ (by decide)⟩
    repeat walk_at "2"
    refine o_mul (fits_l (by omega)) ?_
    repeat walk_at "2"
    refine o_mod (by decide) ?_
    repeat walk_at "2"
    refine o_div ⟨by decide, by decide⟩ ?_
    repeat walk_at "2"
    refine o_mod (by omega) ?_
    refine hT _ ?_ ?_
    · rw [Int.fmod_eq_emod_of_nonneg _ (by omega)]
      exact Int.emod_nonneg _ (by omega)
    · rw [Int.fmod_eq_emod_of_nonneg _ (by omega)]
      exact Int.emod_lt_of_pos _ hm
  repeat walk_at "2"
  with_reducible refine p_lst ?_
  repeat walk_at "2"
  refine o_neIs (ms := []) ?_
  repeat walk_at "2"
  refine ⟨fun h => ?_, fun h => ?_⟩
  · have h : ns ≠ [] := by simpa using h
    have hl : 0 < ns.length := List.length_pos_iff.mpr h
    repeat walk_at "2"
    refine o_mod (by rw [List.length_map]; omega) ?_
    rw [List.length_map]
    have e : ∃ v, atI (ns.map D.int) (Int.fmod a ns.length) = some (.int v) := by
      rw [Int.fmod_eq_emod_of_nonneg _ (by omega)]
      have g0 := Int.emod_nonneg a (show (ns.length : Int) ≠ 0 by omega)
      have g1 := Int.emod_lt_of_pos a (show (0 : Int) < ns.length by omega)
      generalize a % (ns.length : Int) = q at *
      have hq : q.toNat < ns.length := by omega
      refine ⟨ns[q.toNat], ?_⟩
      unfold atI ixN
      rw [List.length_map, if_pos g0, if_pos g1]
      show (ns.map D.int)[q.toNat]? = _
      rw [List.getElem?_map, List.getElem?_eq_getElem hq]
      rfl
    obtain ⟨v, ev⟩ := e
    refine o_ixL ev ?_
    refine s_name (Nat.le_of_ble_eq_true rfl) ?_
    exact tail v
  · refine p_c ?_
    refine s_name (Nat.le_of_ble_eq_true rfl) ?_
    exact tail 0
theorem put_at (ns : List Int) (a b : Int) : putU (stD ns a) (.str "at") (.int b) = some (stD ns b) := by
  unfold stD putU
  dsimp only
  rw [if_pos (show isKey (.str "at") = true from rfl)]
  show (if 3 < sizeLine then _ else _) = _
  rw [if_pos (by decide)]
  rfl
theorem sta_set {c : Nat} {S : Sto} {ns rs : List Int} {a : Int} (hS : Sane S) (h0 : S[0]? = some (.lst (rs.map .int))) (h1 : S[1]? = some (stD ns a)) (hl : rs.length = ns.length) (b : Int) (hb : 0 ≤ b) (hc : b ≤ c) (rs' : List Int) (hl' : rs'.length = rs.length) :
    Go c S ((S.set 1 (stD ns b)).set 0 (.lst (rs'.map .int))) ∧ Go c S (S.set 1 (stD ns b)) := by
  have l1 := (List.getElem?_eq_some_iff.mp h1).1
  have s1 : Sane (S.set 1 (stD ns b)) := sane_set hS (stD_closed (by omega) ns b)
  have s2 : Sane ((S.set 1 (stD ns b)).set 0 (.lst (rs'.map .int))) := sane_set s1 (by unfold D.closed; exact closed_ints' _)
  refine ⟨⟨⟨⟨ns, rs', b, ?_, ?_, by omega, hb, hc⟩, s2⟩, by rw [List.length_set, List.length_set], fun k hk => ?_⟩, ⟨⟨⟨ns, rs, b, ?_, ?_, hl, hb, hc⟩, s1⟩, by rw [List.length_set], fun k hk => ?_⟩⟩
  · rw [List.getElem?_set_self (by rw [List.length_set]; omega)]
  · rw [List.getElem?_set_ne (by decide), List.getElem?_set_self l1]
  · rw [List.getElem?_set_ne (by omega), List.getElem?_set_ne (by omega)]
  · rw [List.getElem?_set_ne (by decide)]; exact h0
  · rw [List.getElem?_set_self l1]
  · rw [List.getElem?_set_ne (by omega)]
theorem draw_spec {c : Nat} {S : Sto} (h : Sta c S) (hc : c < 2 ^ 50) (many : Int) (hm : 0 < many) (hb : many < 2 ^ 64) : (m__law_draw [.ptr 1, .int many] S).post fun d S' => ∃ i, d = .int i ∧ 0 ≤ i ∧ i < many ∧ Go (c + 1) S S' := by
  obtain ⟨ns, rs, a, h0, h1, hl, ha, hac⟩ := h.ex
  have l2 := h.len
  have hlog : many.natAbs.log2 < 9000 := log_of (b := 64) (by omega) (by decide)
  refine m_defR ?_
  show (b__law_draw [some (.ptr 1), some (.int many), none, none, none, none, none] S).post _ _ _ _
  unfold b__law_draw
  repeat walk_at "2"
  refine o_getU (v := .int a) h1 rfl rfl ?_
  repeat walk_at "2"
  refine s_putU ?_
  repeat walk_at "2"
  refine ⟨1, _, _, rfl, h1, put_at ns a (a + 1), ?_⟩
  obtain ⟨_, g1⟩ := sta_set (c := c + 1) h.sane h0 h1 hl (a + 1) (by omega) (by omega) rs rfl
  obtain ⟨ns', rs', b', k0, k1, _⟩ := g1.sta.ex
  have k1 : (S.set 1 (stD ns (a + 1)))[1]? = some (stD ns (a + 1)) := List.getElem?_set_self (by omega)
  have k0 : (S.set 1 (stD ns (a + 1)))[0]? = some (.lst (rs.map .int)) := by rw [List.getElem?_set_ne (by decide)]; exact h0
  repeat walk_at "2"
  refine o_getU (v := .lst (ns.map .int)) k1 rfl rfl ?_
  repeat walk_at "2"
  refine o_getU (v := .ptr 0) k1 rfl rfl ?_
  repeat walk_at "2"
  with_reducible refine p_lst ?_
  repeat walk_at "2"
  refine o_neg_ (u := .list (rs.map .int)) (v := .list ([].map .int)) (by rw [deref_at k0]; show (toPys _ _).map PyData.list = _; rw [toPys_ints]; rfl) rfl (shaped_ints rs).1 (shaped_ints []).1 ?_
  have ev : PyData.eqv (.list (rs.map .int)) (.list ([].map .int)) = decide (rs = []) := by
    simp only [PyData.eqv, eqvAll_ints]
  rw [ev]
  have fin : ∀ {o4 : Option D} {T : D → Sto → Prop}, (∀ i, 0 ≤ i → i < many → T (.int i) (S.set 1 (stD ns (a + 1)))) → _ := fun {o4} {T} hT => mixed_post (ns := ns) (a := a) (many := many) (o4 := o4) (T := T) g1.sta.sane ha (by omega) hm hT
  have done : ∀ i : Int, 0 ≤ i → i < many → (S.set 1 (stD ns (a + 1))).length = S.length ∧ Sane (S.set 1 (stD ns (a + 1))) ∧ D.closed S.length (.int i) = true ∧ ∃ i_1, D.int i = .int i_1 ∧ 0 ≤ i_1 ∧ i_1 < many ∧ Go (c + 1) S (S.set 1 (stD ns (a + 1))) := fun i hi1 hi2 => ⟨g1.len, g1.sta.sane, rfl, i, rfl, hi1, hi2, g1⟩
  repeat walk_at "2"
  refine ⟨fun hr => ?_, fun hr => ?_⟩
  · have hr : rs ≠ [] := by simpa using hr
    have hp : 0 < rs.length := List.length_pos_iff.mpr hr
    repeat walk_at "2"
    refine o_getU (v := .ptr 0) k1 rfl rfl ?_
    repeat walk_at "2"
    refine o_mod (by rw [List.length_map]; omega) ?_
    rw [List.length_map, ← hl]
    have e : ∃ (j : Nat) (v : Int), ixN rs.length (Int.fmod a rs.length) = some j ∧ (rs.map D.int)[j]? = some (.int v) := by
      rw [Int.fmod_eq_emod_of_nonneg _ (by omega)]
      have g0 := Int.emod_nonneg a (show (rs.length : Int) ≠ 0 by omega)
      have g1 := Int.emod_lt_of_pos a (show (0 : Int) < rs.length by omega)
      generalize a % (rs.length : Int) = q at *
      have hq : q.toNat < rs.length := by omega
      refine ⟨q.toNat, rs[q.toNat], ?_, ?_⟩
      · unfold ixN
        rw [if_pos g0, if_pos g1]
      · rw [List.getElem?_map, List.getElem?_eq_getElem hq]
        rfl
    obtain ⟨j, v, ej, evj⟩ := e
    refine p_lift (show gIx (S.set 1 (stD ns (a + 1))) (.ptr 0) (.int (Int.fmod a rs.length)) = some (.int v) by
      unfold gIx
      rw [deref_at k0]
      dsimp only
      unfold atI
      rw [List.length_map, ej]
      exact evj) ?_
    refine s_name (Nat.le_of_ble_eq_true rfl) ?_
    dsimp only [List.set_cons_zero, List.set_cons_succ]
    refine s_seq ?_
    refine s_if ?_
    repeat walk_at "2"
    refine ⟨fun hv => ?_, fun hv => ?_⟩
    · refine s_seq ?_
      refine s_setL ?_
      repeat walk_at "2"
      refine o_div ⟨by omega, hlog⟩ ?_
      repeat walk_at "2"
      refine o_getU (v := .ptr 0) k1 rfl rfl ?_
      repeat walk_at "2"
      refine o_mod (by rw [List.length_map]; omega) ?_
      rw [List.length_map, ← hl]
      refine ⟨0, _, _, j, rfl, rfl, k0, by rw [List.length_map]; exact ej, ?_⟩
      rw [set_ints]
      obtain ⟨g2, _⟩ := sta_set (c := c + 1) h.sane h0 h1 hl (a + 1) (by omega) (by omega) (rs.set j (Int.fdiv v many)) (by rw [List.length_set])
      repeat walk_at "2"
      refine o_mod (by omega) ?_
      have r0 : 0 ≤ Int.fmod v many ∧ Int.fmod v many < many := by
        rw [Int.fmod_eq_emod_of_nonneg _ (by omega)]
        exact ⟨Int.emod_nonneg _ (by omega), Int.emod_lt_of_pos _ hm⟩
      exact ⟨g2.len, g2.sta.sane, rfl, _, rfl, r0.1, r0.2, g2⟩
    · refine s_next ?_
      exact fin done
  · refine p_c ?_
    refine s_name (Nat.le_of_ble_eq_true rfl) ?_
    dsimp only [List.set_cons_zero, List.set_cons_succ]
    refine s_seq ?_
    refine s_if ?_
    refine p_val ?_
    refine p_bin ?_
    refine p_var rfl ?_
    refine p_c ?_
    refine o_gtU ?_
    refine ⟨_, rfl, (fun hv => absurd (of_decide_eq_true hv) (by decide)), fun _ => ?_⟩
    refine s_next ?_
    exact fin done
/-- what was there ahead goes on -/
theorem go_take {c : Nat} {S S1 : Sto} (hS : Sane S) (h2 : 2 ≤ S.length) (h : Sta c S1) (hl : S.length ≤ S1.length) (hr : ∀ k, 2 ≤ k → k < S.length → S1[k]? = S[k]?) : Go c S (S1.take S.length) := by
  obtain ⟨ns, rs, a, e0, e1, q⟩ := h.ex
  have tk : ∀ k, k < S.length → (S1.take S.length)[k]? = S1[k]? := fun k hk => by rw [List.getElem?_take, if_pos hk]
  have ln : (S1.take S.length).length = S.length := by rw [List.length_take]; omega
  refine ⟨⟨⟨ns, rs, a, by rw [tk 0 (by omega)]; exact e0, by rw [tk 1 (by omega)]; exact e1, q⟩, ?_⟩, ln, fun k hk => ?_⟩
  · unfold Sane
    rw [ln]
    refine closedL_iff.mpr fun i x hx => ?_
    have hi : i < S.length := by
      have := (List.getElem?_eq_some_iff.mp hx).1
      omega
    rw [tk i hi] at hx
    rcases (by omega : i = 0 ∨ i = 1 ∨ 2 ≤ i) with rfl | rfl | h3
    · rw [e0] at hx
      cases hx
      unfold D.closed
      exact closed_ints' _
    · rw [e1] at hx
      cases hx
      exact stD_closed (by omega) ns a
    · rw [hr i h3 hi] at hx
      exact closedL_iff.mp hS i x hx
  · by_cases h3 : k < S.length
    · rw [tk k h3, hr k hk h3]
    · rw [List.getElem?_eq_none (by omega), List.getElem?_eq_none (by omega)]
theorem m_defG {n c : Nat} {b : RS} {ds : List D} {S : Sto} {Q : D → Sto → Prop} (h : (b (ds.map some ++ List.replicate (n - ds.length) none) S).post NoS (fun z S1 => D.closed S.length z = true ∧ Go c S (S1.take S.length) ∧ Q z (S1.take S.length)) NoS NoS) : (mDef n b ds S).post Q :=
  m_def (h.mono (fun _ _ z => z.elim) (fun z S1 ⟨e1, e2, e3⟩ => by
    have e4 : closedL S.length (S1.take S.length) = true := by
      have := e2.sta.sane
      unfold Sane at this
      rwa [e2.len] at this
    rw [e1, e4]
    exact ⟨rfl, e3⟩) (fun _ _ z => z) (fun _ _ z => z))
theorem of_spec {c : Nat} {S : Sto} (h : Sta c S) (hc : c < 2 ^ 50) {xs : List D} (h0 : xs ≠ []) (hl : xs.length ≤ 2000) (hx : ∀ x ∈ xs, D.closed S.length x = true) : (m__law_of [.ptr 1, .lst xs] S).post fun d S' => d ∈ xs ∧ Go (c + 1) S S' := by
  refine m_defR ?_
  show (b__law_of [some (.ptr 1), some (.lst xs)] S).post _ _ _ _
  unfold b__law_of
  repeat walk_at "2"
  have hp : 0 < xs.length := List.length_pos_iff.mpr h0
  refine (draw_spec h hc xs.length (by omega) (by omega)).mono ?_
  rintro d S1 ⟨i, rfl, i0, i1, g⟩
  have hi : i.toNat < xs.length := by omega
  refine o_ixL (d := xs[i.toNat]) ?_ ?_
  · unfold atI ixN
    rw [if_pos i0, if_pos i1]
    show xs[i.toNat]? = _
    rw [List.getElem?_eq_getElem hi]
  · have hm : xs[i.toNat] ∈ xs := List.getElem_mem hi
    exact ⟨g.len, g.sta.sane, hx _ hm, hm, g⟩
theorem lcommon_spec (a b : Nat) (S : Sto) (hS : Sane S) : m__law_common [.int a, .int b] S = .ok (.int (Nat.gcd a b)) S := by
  refine m_defS hS rfl ?_
  show (b__law_common [some (.int a), some (.int b)] S).post _ _ _ _
  unfold b__law_common
  repeat walk_at "2"
  refine s_whileL (fun n δ S1 => S1 = S ∧ ∃ x y : Nat, y ≤ n ∧ Nat.gcd x y = Nat.gcd a b ∧ δ = [some (.int x), some (.int y)]) ?_ b _ _ _ ⟨rfl, a, b, Nat.le_refl _, rfl, rfl⟩ (by show b < (b : Int).natAbs + 1; omega)
  rintro n δ S1 ⟨rfl, x, y, hn, hg, rfl⟩
  repeat walk_at "2"
  constructor
  · intro h
    have h : (0 : Int) < y := of_decide_eq_true h
    have hy : 0 < y := by omega
    obtain ⟨m, rfl⟩ : ∃ m, n = m + 1 := ⟨n - 1, by omega⟩
    refine ⟨m, rfl, ?_⟩
    repeat walk_at "2"
    refine o_mod (by omega) ?_
    repeat walk_at "2"
    have e : Int.fmod x y = ((x % y : Nat) : Int) := by rw [Int.fmod_eq_emod_of_nonneg _ (by omega)]; rfl
    have l : x % y < y := Nat.mod_lt _ hy
    refine ⟨rfl, y, x % y, by omega, ?_, by rw [e]⟩
    rw [← hg, Nat.gcd_comm y, ← Nat.gcd_rec, Nat.gcd_comm]
  · intro h
    have h : ¬ (0 : Int) < y := of_decide_eq_false h
    have hy : y = 0 := by omega
    subst hy
    repeat walk_at "2"
    have e : x = Nat.gcd a b := by rw [← hg, Nat.gcd_zero_right]
    rw [e]
    exact ⟨rfl, rfl⟩
/-- a fraction by the law's own way -/
theorem lshare_spec (a b : Int) (hb : 0 < b) (hl : b.natAbs < 2 ^ 8990) (S : Sto) (hS : Sane S) : m__law_share [.int a, .int b] S = .ok (toD ((a : Rat) / (b : Rat))) S := by
  obtain ⟨k, rfl⟩ : ∃ k : Nat, b = k := ⟨b.toNat, by omega⟩
  have hg : 0 < Nat.gcd a.natAbs k := Nat.gcd_pos_of_pos_right _ (by omega)
  have hgk : Nat.gcd a.natAbs k ≤ k := Nat.gcd_le_right _ (by omega)
  have lg : ((Nat.gcd a.natAbs k : Nat) : Int).natAbs.log2 < 9000 := log_of (b := 8990) (by have : (k : Int).natAbs = k := rfl; omega) (by decide)
  have e := rat_of (a := a) (b := k) hb
  have eg : (Int.gcd a k : Int) = (Nat.gcd a.natAbs k : Nat) := rfl
  rw [toD_rat, e.1, e.2, eg]
  refine m_defS hS rfl ?_
  show (b__law_share [some (.int a), some (.int k), none] S).post _ _ _ _
  unfold b__law_share
  walk_at "3"
  refine Res.post.of_eq (lcommon_spec a.natAbs k S hS) ?_
  walk_at "3"
  refine o_div ⟨by omega, lg⟩ ?_
  walk_at "3"
  refine o_div ⟨by omega, lg⟩ ?_
  walk_at "3"
  exact ⟨rfl, rfl⟩
def small (n : Nat) (d : D) : Prop := ∃ i : Int, d = .int i ∧ i.natAbs ≤ n
theorem number_spec {c : Nat} {S : Sto} (h : Sta c S) (hc : c < 2 ^ 40) : (m__law_number [.ptr 1] S).post fun d S' => ∃ i : Int, d = .int i ∧ i ≠ 0 ∧ i.natAbs ≤ 10 ^ 21 ∧ Go (c + 4) S S' := by
  refine m_defR ?_
  show (b__law_number [some (.ptr 1), none, none] S).post _ _ _ _
  unfold b__law_number
  walk_at "3"
  refine (draw_spec h (by omega) 12 (by decide) (by decide)).mono ?_
  rintro _ S1 ⟨i1, rfl, a1, b1, g1⟩
  walk_at "3"
  refine pow6 (δ := []) (n := 6) (by decide) ?_
  walk_at "3"
  refine (draw_spec g1.sta (by omega) (10 ^ 6) (by decide) (by decide)).mono ?_
  rintro _ S2 ⟨i2, rfl, a2, b2, g2⟩
  walk_at "3"
  refine pow6 (δ := []) (n := 20) (by decide) ?_
  walk_at "3"
  refine pow6 (δ := []) (n := 6) (by decide) ?_
  walk_at "3"
  refine (draw_spec g2.sta (by omega) (10 ^ 6) (by decide) (by decide)).mono ?_
  rintro _ S3 ⟨i3, rfl, a3, b3, g3⟩
  walk_at "3"
  have g := (g1.trans g2).trans g3
  refine (of_spec g3.sta (by omega) (xs := [.int 1, .int (-1), .int 2, .int 3, .int (-5), .int i1, .int (0 - i2), .int (10 ^ 20 + i3)]) (by simp) (by simp) (fun x hx => by
    have : ∃ i, x = .int i := by
      simp only [List.mem_cons, List.not_mem_nil, or_false] at hx
      rcases hx with rfl | rfl | rfl | rfl | rfl | rfl | rfl | rfl <;> exact ⟨_, rfl⟩
    obtain ⟨i, rfl⟩ := this
    rfl)).mono ?_
  rintro d S4 ⟨hd, g4⟩
  have hd : ∃ i : Int, d = .int i ∧ i.natAbs ≤ 10 ^ 21 := by
    simp only [List.mem_cons, List.not_mem_nil, or_false] at hd
    rcases hd with rfl | rfl | rfl | rfl | rfl | rfl | rfl | rfl
    · exact ⟨_, rfl, by decide⟩
    · exact ⟨_, rfl, by decide⟩
    · exact ⟨_, rfl, by decide⟩
    · exact ⟨_, rfl, by decide⟩
    · exact ⟨_, rfl, by decide⟩
    · exact ⟨_, rfl, by omega⟩
    · exact ⟨_, rfl, by omega⟩
    · exact ⟨_, rfl, by omega⟩
  obtain ⟨i, rfl, hi⟩ := hd
  have gg := g.trans g4
  walk_at "3"
  refine ⟨fun z => ?_, fun _ => ?_⟩
  · walk_at "3"
    exact ⟨gg.len, gg.sta.sane, rfl, i, rfl, by simpa using z, hi, gg.le (by omega)⟩
  · walk_at "3"
    exact ⟨gg.len, gg.sta.sane, rfl, 4, rfl, by decide, by decide, gg.le (by omega)⟩
theorem base_spec {c : Nat} {S : Sto} (h : Sta c S) (hc : c < 2 ^ 40) : (m__law_base [.ptr 1] S).post fun d S' => ∃ i : Int, d = .int i ∧ i.natAbs ≤ 10 ^ 10 ∧ Go (c + 2) S S' := by
  refine m_defR ?_
  show (b__law_base [some (.ptr 1)] S).post _ _ _ _
  unfold b__law_base
  walk_at "3"
  refine pow6 (δ := []) (n := 9) (by decide) ?_
  walk_at "3"
  refine (draw_spec h (by omega) (10 ^ 9) (by decide) (by decide)).mono ?_
  rintro _ S1 ⟨i1, rfl, a1, b1, g1⟩
  walk_at "3"
  refine pow6 (δ := []) (n := 8) (by decide) ?_
  walk_at "3"
  refine (of_spec g1.sta (by omega) (xs := [.int 0, .int 0, .int 1, .int 1, .int (-1), .int 2, .int (-2), .int 3, .int (-7), .int 10, .int (i1 - 10 ^ 8)]) (by simp) (by simp) (fun x hx => by
    have : ∃ i, x = .int i := by
      simp only [List.mem_cons, List.not_mem_nil, or_false] at hx
      rcases hx with rfl | rfl | rfl | rfl | rfl | rfl | rfl | rfl | rfl | rfl | rfl <;> exact ⟨_, rfl⟩
    obtain ⟨i, rfl⟩ := this
    rfl)).mono ?_
  rintro d S4 ⟨hd, g4⟩
  have hd : ∃ i : Int, d = .int i ∧ i.natAbs ≤ 10 ^ 10 := by
    simp only [List.mem_cons, List.not_mem_nil, or_false] at hd
    rcases hd with rfl | rfl | rfl | rfl | rfl | rfl | rfl | rfl | rfl | rfl | rfl
    all_goals first | exact ⟨_, rfl, by decide⟩ | exact ⟨_, rfl, by omega⟩
  obtain ⟨i, rfl, hi⟩ := hd
  have gg := g1.trans g4
  exact ⟨gg.len, gg.sta.sane, rfl, i, rfl, hi, gg.le (by omega)⟩
/-! ### products of boxes that are drawn -/
/-- the boxes that are drawn -/
def fiveB : List Str := ["gull", "x", "arc", "zz", "b"]
def nice (x : Str) : Bool := (decide (x.length ≤ 8) && x.cps.toList.all fun c => decide (c < 128)) && decide (x ∈ fiveB)
def degT (m : Mono) : Int := (m.map (·.2)).sum
structure MonG (t : Nat) (m : Mono) : Prop where
  nd : ND m
  nc : ∀ p ∈ m, nice p.1 = true ∧ 1 ≤ p.2
  dg : degT m = t
theorem repl_deg (m : Mono) (k : Str) (v : Int) (hn : ND m) {w : Int} (h : getT m k = some w) : degT (replT m k v) = degT m + v - w := by
  induction m with
  | nil => cases h
  | cons p r ih =>
    obtain ⟨k', v'⟩ := p
    unfold ND at hn
    rw [List.map_cons, List.nodup_cons] at hn
    rw [getT_cons] at h
    unfold replT
    by_cases e : k' = k
    · subst e
      rw [if_pos rfl] at h
      cases h
      rw [if_pos rfl]
      have : replT r k' v = r := by
        have hk := hn.1
        clear ih hn
        induction r with
        | nil => rfl
        | cons q s ih =>
          obtain ⟨k2, v2⟩ := q
          rw [List.map_cons, List.mem_cons, not_or] at hk
          unfold replT
          rw [if_neg (Ne.symm hk.1), ih hk.2]
      rw [this]
      unfold degT
      simp only [List.map_cons, List.sum_cons]
      omega
    · rw [if_neg e] at h ⊢
      have := ih hn.2 h
      unfold degT at this ⊢
      simp only [List.map_cons, List.sum_cons]
      omega
theorem put_deg (m : Mono) (k : Str) (hn : ND m) : degT (putT m k ((getT m k).getD 0 + 1)) = degT m + 1 := by
  unfold putT
  cases e : getT m k with
  | some w =>
    rw [if_pos (show (some w).isSome = true from rfl), repl_deg m k _ hn e]
    show degT m + (w + 1) - w = _
    omega
  | none =>
    rw [if_neg (show ¬ (none : Option Int).isSome = true by decide)]
    unfold degT
    rw [List.map_append, List.sum_append]
    simp
theorem deg_pos {m : Mono} (h : ∀ p ∈ m, nice p.1 = true ∧ 1 ≤ p.2) : (m.length : Int) ≤ degT m ∧ ∀ p ∈ m, p.2 ≤ degT m := by
  induction m with
  | nil => exact ⟨Int.le_refl _, fun _ z => nomatch z⟩
  | cons p r ih =>
    obtain ⟨h1, h2⟩ := ih fun q hq => h q (List.mem_cons_of_mem _ hq)
    have h3 := (h p List.mem_cons_self).2
    unfold degT at *
    simp only [List.map_cons, List.sum_cons, List.length_cons]
    refine ⟨by omega, fun q hq => ?_⟩
    rcases List.mem_cons.mp hq with rfl | hq
    · omega
    · have := h2 q hq; omega
theorem deg_perm {m n : Mono} (h : m.Perm n) : degT m = degT n := by
  unfold degT
  have := h.map (·.2)
  generalize m.map (·.2) = a at this
  generalize n.map (·.2) = b at this
  induction this with
  | nil => rfl
  | cons x _ ih => simp only [List.sum_cons, ih]
  | swap x y l => simp only [List.sum_cons]; omega
  | trans _ _ h1 h2 => exact h1.trans h2
theorem five_nice {d : D} (h : d ∈ ([.str "gull", .str "x", .str "arc", .str "zz", .str "b"] : List D)) : ∃ x, d = .str x ∧ nice x = true := by
  simp only [List.mem_cons, List.not_mem_nil, or_false] at h
  rcases h with rfl | rfl | rfl | rfl | rfl <;> exact ⟨_, rfl, by decide +kernel⟩
/-- a product that is drawn: in order, of degree up to n -/
structure MonO (n : Nat) (m : Mono) : Prop where
  inc : Inc m
  nc : ∀ p ∈ m, nice p.1 = true ∧ 1 ≤ p.2
  dg : degT m ≤ n
theorem mono_spec {c : Nat} {S : Sto} (h : Sta c S) (hc : c < 2 ^ 40) (n : Nat) (hn : n ≤ 100) : (m__law_mono [.ptr 1, .int n] S).post fun d S' => ∃ m : Mono, d = toD m ∧ MonO n m ∧ Go (c + n + 2) S S' := by
  refine m_defG (c := c + n + 2) ?_
  show (b__law_mono [some (.ptr 1), some (.int n), none, none, none] S).post _ _ _ _
  unfold b__law_mono
  have l2 := h.len
  have h1 : Sta c (S ++ [.dct []]) := h.app rfl
  walk_at "3"
  with_reducible refine p_range1 ?_
  walk_at "3"
  refine (draw_spec h1 (by omega) (n + 1) (by omega) (by omega)).mono ?_
  rintro _ S1 ⟨j, rfl, j0, j1, g1⟩
  walk_at "3"
  refine ⟨by omega, by omega, ?_⟩
  have e0 : S1[S.length]? = some (.dct []) := by rw [g1.rest _ l2]; exact get_app
  refine s_forL (fun xs δ S2 => ∃ t u kvs, xs.length + t ≤ n ∧ Sta (c + 1 + t) S2 ∧ S2.length = S.length + 1 ∧ S2[S.length]? = some u ∧ IsDic u kvs ∧ MonG t kvs ∧ (∀ k, 2 ≤ k → k < S.length → S2[k]? = S[k]?) ∧ ∃ o3 o4, δ = [some (.ptr 1), some (.int n), some (.ptr S.length), o3, o4]) ?_ ?_ _ _ _ ⟨0, _, [], ?_, g1.sta, ?_, e0, isDic_nil, ⟨List.nodup_nil, (fun _ z => nomatch z), rfl⟩, ?_, _, _, rfl⟩
  · rintro x xs δ S2 ⟨t, u, kvs, ht, hs, hl, hk, hu, kv, hr, o3, o4, rfl⟩
    rw [List.length_cons] at ht
    walk_at "3"
    refine (of_spec hs (by omega) (by simp) (by simp) (fun y hy => by
      obtain ⟨z, rfl, _⟩ := five_nice hy
      rfl)).mono ?_
    rintro d S3 ⟨hd, g3⟩
    obtain ⟨z, rfl, nz⟩ := five_nice hd
    have hk3 : S3[S.length]? = some u := by rw [g3.rest _ l2]; exact hk
    walk_at "3"
    refine s_putU ?_
    walk_at "3"
    refine p_get2 ?_
    walk_at "3"
    refine ⟨dic_isDct hu hk3, ?_⟩
    walk_at "3"
    refine ⟨_, dic_lookU hu hk3 z, ?_⟩
    have ev : ((getT kvs z).map toD).getD (.int 0) = .int ((getT kvs z).getD 0) := by cases getT kvs z <;> rfl
    rw [ev]
    walk_at "3"
    have sl : 1000 ≤ sizeLine := by decide
    have dp := deg_pos kv.nc
    have hdg := kv.dg
    obtain ⟨u', e', hu'⟩ := dic_putU hu (by omega) z ((getT kvs z).getD 0 + 1)
    refine ⟨S.length, u, u', rfl, hk3, e', ?_⟩
    have hl3 : S3.length = S.length + 1 := g3.len.trans hl
    obtain ⟨ns, rs, a, q0, q1, q2⟩ := g3.sta.ex
    have ge : 0 ≤ (getT kvs z).getD 0 := by
      cases e : getT kvs z with
      | none => exact Int.le_refl _
      | some w =>
        have := (kv.nc _ (getT_mem e)).2
        show 0 ≤ w
        omega
    refine ⟨t + 1, u', _, by omega, ⟨⟨ns, rs, a, ?_, ?_, q2⟩, sane_set g3.sta.sane (isDic_closed hu' _)⟩, by rw [List.length_set]; exact hl3, List.getElem?_set_self (by omega), hu', ⟨nd_put kv.nd _ _, put_all kv.nc ⟨nz, by show 1 ≤ (getT kvs z).getD 0 + 1; omega⟩, by rw [put_deg _ _ kv.nd, kv.dg]; rfl⟩, fun k k1 k2 => ?_, _, _, rfl⟩
    · rw [List.getElem?_set_ne (by omega)]; exact q0
    · rw [List.getElem?_set_ne (by omega)]; exact q1
    · rw [List.getElem?_set_ne (by omega), g3.rest k k1]; exact hr k k1 k2
  · rintro δ S2 ⟨t, u, kvs, ht, hs, hl, hk, hu, kv, hr, o3, o4, rfl⟩
    have tn : t ≤ n := by simpa using ht
    have sl : 2000 ≤ sizeLine := by decide
    have dp := deg_pos kv.nc
    have hdg := kv.dg
    walk_at "3"
    refine p_sortIt ?_
    walk_at "3"
    refine ⟨(srt kvs).map toD, ?_, ?_⟩
    · rw [dic_itemsOf hu hk]
      show sortD S2 (kvs.map toD) = _
      exact sortD_emb S2 kvs (by omega)
    · walk_at "3"
      refine p_lift (show gTuple S2 [.lst ((srt kvs).map toD)] = some (.tup ((srt kvs).map toD)) from rfl) ?_
      have gg : Go (c + n + 2) S (S2.take S.length) := go_take h.sane l2 (hs.le (by omega)) (by omega) hr
      exact ⟨cl (κ := Mono) _ (srt kvs), gg, srt kvs, rfl, ⟨inc_srt kv.nd, fun p hp => kv.nc p (srt_mem.mp hp), by rw [deg_perm (srt_perm kvs)]; omega⟩, gg⟩
  · unfold rangeD
    rw [List.length_map, List.length_range]
    omega
  · rw [g1.len, List.length_append]; rfl
  · intro k k1 k2
    rw [g1.rest k k1, List.getElem?_append_left k2]
end DL

set_option Elab.async false
set_option linter.all false
set_option maxRecDepth 100000
set_option maxHeartbeats 4000000
set_option autoImplicit false
/-! Items of tuples. -/
namespace DL
open PySem L2
open Emb
theorem o_ix0 {S : Sto} {a : D} {r : List D} {Q : D → Sto → Prop} (h : Q a S) : (Res.lift (gIx S (.tup (a :: r)) (.int 0)) S).post Q := o_ixT atI_0 h
theorem o_ix1 {S : Sto} {a b : D} {r : List D} {Q : D → Sto → Prop} (h : Q b S) : (Res.lift (gIx S (.tup (a :: b :: r)) (.int 1)) S).post Q := o_ixT atI_1 h
theorem o_ix2 {S : Sto} {a b c : D} {r : List D} {Q : D → Sto → Prop} (h : Q c S) : (Res.lift (gIx S (.tup (a :: b :: c :: r)) (.int 2)) S).post Q := o_ixT atI_2 h
theorem o_ix0L {S : Sto} {a : D} {r : List D} {Q : D → Sto → Prop} (h : Q a S) : (Res.lift (gIx S (.lst (a :: r)) (.int 0)) S).post Q := o_ixL atI_0 h
theorem o_ix1L {S : Sto} {a b : D} {r : List D} {Q : D → Sto → Prop} (h : Q b S) : (Res.lift (gIx S (.lst (a :: b :: r)) (.int 1)) S).post Q := o_ixL atI_1 h
theorem o_ix2L {S : Sto} {a b c : D} {r : List D} {Q : D → Sto → Prop} (h : Q c S) : (Res.lift (gIx S (.lst (a :: b :: c :: r)) (.int 2)) S).post Q := o_ixL atI_2 h
theorem s_gtupl {u : List D → Sl → Sto → Res Sl} {ds : List D} {δ : Sl} {S : Sto} {QS : Sl → Sto → Prop} (h : (u ds δ S).post QS) : (gTup u (.tup ds) δ S).post QS := s_gtup rfl h
end DL

set_option Elab.async false
set_option linter.all false
set_option maxRecDepth 100000
set_option maxHeartbeats 4000000
set_option autoImplicit false
/-! Rows of fractions, by the law. -/
namespace DL
open PySem L2
open Emb
local macro_rules | `(tactic| walk_at "1") => `(tactic| with_reducible first
  | refine s_seq ?_ | refine s_asg ?_ | refine s_ret ?_ | refine s_if ?_ | refine s_expr ?_ | refine s_next ?_ | refine s_brk ?_ | refine s_cont ?_ | refine s_for ?_ | refine s_while ?_
  | refine p_c ?_ | refine p_bin ?_ | refine p_as ?_ | refine p_cons ?_ | refine p_nil ?_ | refine p_un ?_ | refine p_call ?_ | refine p_if ?_ | refine p_own ?_
  | refine p_keep ?_ | refine p_tru ?_ | refine p_and ?_ | refine p_or ?_ | refine p_not ?_ | refine p_val ?_ | refine p_rand ?_ | refine p_ror ?_ | refine p_rnot ?_ | refine p_chain ?_ | refine p_bif ?_
  | refine o_add ?_ | refine o_sub ?_ | refine o_ltU ?_ | refine o_leU ?_ | refine o_gtU ?_ | refine o_geU ?_ | refine o_neg ?_ | refine o_eqI ?_ | refine o_neI ?_ | refine o_abs ?_ | refine o_tru ?_ | refine p_true ?_ | refine p_false ?_
  | refine o_lenT ?_ | refine o_lenL ?_ | refine o_ix0 ?_ | refine o_ix1 ?_ | refine o_ix2 ?_ | refine o_ix0L ?_ | refine o_ix1L ?_ | refine o_ix2L ?_
  | refine s_par ?_ | refine p_yes ?_ | refine p_seq ?_ | refine s_gnil ?_ | refine s_gcons ?_ | refine s_gtux ?_ | refine s_gtupl ?_ | refine p_onone ?_ | refine p_osome ?_ | refine p_get2 ?_ | refine s_putU ?_ | refine p_sortIt ?_)
local macro_rules | `(tactic| walk_at "2") => `(tactic| first
  | walk_at "1"
  | (with_reducible refine p_var2 ?_)
  | ((with_reducible refine s_name ?_ ?_); (· exact Nat.le_of_ble_eq_true rfl); dsimp only [List.set_cons_zero, List.set_cons_succ])
  | (with_reducible refine p_tup ?_) | (with_reducible refine p_lst ?_) | ((with_reducible refine ⟨?_, ?_⟩); (· exact Nat.le_of_ble_eq_true rfl))
  | ((with_reducible refine p_ex2 (x := ?_) (y := ?_) ?_ ?_); rotate_left; rotate_left; (· rfl); refine ⟨?_, ?_, ?_⟩; (· exact Nat.le_of_ble_eq_true rfl); (· exact Nat.le_of_ble_eq_true rfl); dsimp only [List.set_cons_zero, List.set_cons_succ])
  | ((with_reducible refine p_isT ?_ ?_); (· rfl)) | ((with_reducible refine p_isF ?_ ?_); (· rfl))
  | ((with_reducible refine p_ex (x := ?_) ?_ ?_); rotate_left; (· rfl)))
local macro_rules | `(tactic| walk_at "3") => `(tactic| repeat walk_at "2")
/-! ### comprehensions over rows of pairs -/
section
variable {κ ν β : Type} [Emb κ] [Emb ν]
def in2 (δ : Sl) (a b : Nat) (x y : D) : Sl := ((wipeD δ [a, b]).set a (some x)).set b (some y)
theorem wipe_len : ∀ (vs : List Nat) (δ : Sl), (wipeD δ vs).length = δ.length
  | [], _ => rfl
  | v :: vs, δ => by show ((wipeD δ vs).set v none).length = _; rw [List.length_set, wipe_len vs δ]
theorem g2 {δ : Sl} {S : Sto} {a b : Nat} {x y : D} (ha : a < δ.length) (hb : b < δ.length) (t : List D → D) (ht : t = D.tup ∨ t = D.tux) : gTup (gCons (gName a) (gCons (gName b) gNil)) (t [x, y]) (wipeD δ [a, b]) S = .ok (in2 δ a b x y) S := by
  have e : gTup (gCons (gName a) (gCons (gName b) gNil)) (t [x, y]) (wipeD δ [a, b]) S = gCons (gName a) (gCons (gName b) gNil) [x, y] (wipeD δ [a, b]) S := by rcases ht with rfl | rfl <;> rfl
  rw [e]
  show (gName a x (wipeD δ [a, b]) S).bind (fun δ1 S1 => (gName b y δ1 S1).bind fun δ2 S2 => Res.ok δ2 S2) = _
  unfold gName
  rw [if_pos (by rw [wipe_len]; exact ha)]
  show (Res.bind (if b < ((wipeD δ [a, b]).set a (some x)).length then Res.ok _ S else .stuck) _) = _
  rw [if_pos (by rw [List.length_set, wipe_len]; exact hb)]
  rfl
theorem p_lcRows (rows : List (κ × ν)) (f : κ × ν → β) (tb : β → D) {a b : Nat} {it : RA} {e : RE} {δ : Sl} {S : Sto} {Q : D → Sto → Prop} (hi : it δ S = .ok (rows.map toD) S) (ha : a < δ.length) (hb : b < δ.length) (hl : rows.length ≤ sizeLine)
    (he : ∀ p ∈ rows, e (in2 δ a b (toD p.1) (toD p.2)) S = .ok (tb (f p)) S) (h : Q (.lst ((rows.map f).map tb)) S) : (rLc it (gTup (gCons (gName a) (gCons (gName b) gNil))) [a, b] bYes e δ S).post Q := by
  refine p_lc ?_
  refine Res.post.of_eq hi ?_
  refine Res.post.of_eq (lcTm toD tb f fun p hp => ⟨_, g2 ha hb D.tup (.inl rfl), he p hp⟩) ⟨by rw [List.length_map, List.length_map]; exact hl, h⟩
theorem p_lcItems [DecidableEq κ] [KeyE κ] (rows : List (κ × ν)) (f : κ × ν → Bool) (tb : κ × ν → D) {a b i j : Nat} {t : RB} {e : RE} {δ : Sl} {S : Sto} {u : D} {Q : D → Sto → Prop} (hd : IsDic u rows) (hj : S[j]? = some u) (hv : δ[i]? = some (some (.ptr j))) (ha : a < δ.length) (hb : b < δ.length) (hl : rows.length ≤ sizeLine)
    (ht : ∀ p ∈ rows, t (in2 δ a b (toD p.1) (toD p.2)) (S.set j (.lck u)) = .ok (f p) (S.set j (.lck u)))
    (he : ∀ p ∈ rows, f p = true → e (in2 δ a b (toD p.1) (toD p.2)) (S.set j (.lck u)) = .ok (tb p) (S.set j (.lck u))) (h : Q (.lst ((rows.filter f).map tb)) (S.set j (.lck u))) :
    (rLc (rItems (rVar i)) (gTup (gCons (gName a) (gCons (gName b) gNil))) [a, b] t e δ (S.set j (.lck u))).post Q := by
  refine p_lc ?_
  refine p_items ?_
  refine p_var hv ?_
  refine ⟨_, dic_items hd hj, ?_⟩
  rw [show pairsD (kvD rows) = rows.map (fun p : κ × ν => D.tux [toD p.1, toD p.2]) from by unfold pairsD kvD; rw [List.map_map]; rfl]
  have hf : (rows.filter f).length ≤ rows.length := List.length_filter_le _ _
  refine Res.post.of_eq (lcTf (fun p : κ × ν => D.tux [toD p.1, toD p.2]) tb f fun p hp => ⟨_, g2 ha hb D.tux (.inr rfl), ht p hp, he p hp⟩) ⟨by rw [List.length_map]; omega, h⟩
end
/-! ### rows of fractions -/
def fz {κ : Type} (p : κ × Rat) : Bool := !decide (p.2 = 0)
theorem num_beq (q : Rat) : (q.num == 0) = decide (q = 0) := by
  by_cases h : q = 0
  · subst h; rfl
  · rw [decide_eq_false h]
    exact beq_eq_false_iff_ne.mpr fun z => h (rat_num0.mp z)
def rowsT {κ : Type} [Emb κ] (kvs : List (κ × Rat)) : List (κ × Rat) := srt (kvs.filter fz)
theorem den_pos' (q : Rat) : (0 : Int) < q.den := by have := q.den_pos; omega
theorem lplus_spec (x y : Rat) {B : Nat} (hx : RB' B x) (hy : RB' B y) (hB : B ≤ 2 ^ 4000) (S : Sto) (hS : Sane S) : m__law_plus [toD x, toD y] S = .ok (toD (x + y)) S := by
  refine m_defS hS (cl _ _) ?_
  show (b__law_plus [some (.tup [.int x.num, .int x.den]), some (.tup [.int y.num, .int y.den])] S).post _ _ _ _
  unfold b__law_plus
  have f : ∀ {a b : Int}, a.natAbs ≤ B → b.natAbs ≤ B → mulFits a b = true := fun h1 h2 => fits_of (a := 4001) (b := 4001) (by omega) (by omega) (by decide)
  have dx : ((x.den : Int)).natAbs ≤ B := hx.2
  have dy : ((y.den : Int)).natAbs ≤ B := hy.2
  walk_at "3"
  refine o_mul (f hx.1 dy) ?_
  walk_at "3"
  refine o_mul (f hy.1 dx) ?_
  walk_at "3"
  refine o_mul (f dx dy) ?_
  walk_at "3"
  refine Res.post.of_eq (lshare_spec _ _ (Int.mul_pos (den_pos' x) (den_pos' y)) ?_ S hS) ⟨by rw [rat_add], rfl⟩
  rw [Int.natAbs_mul]
  have := Nat.mul_le_mul (Nat.le_trans dx hB) (Nat.le_trans dy hB)
  exact Nat.lt_of_le_of_lt this (by rw [← Nat.pow_add]; exact Nat.pow_lt_pow_right (by decide) (by decide))
section
variable {κ : Type} [Emb κ] [DecidableEq κ] [KeyE κ] [Sok (κ × Rat)]
theorem lpairs_spec {S : Sto} {j : Nat} {u : D} {kvs : List (κ × Rat)} (hS : Sane S) (hd : IsDic u kvs) (hj : S[j]? = some u) (hl : kvs.length ≤ sizeLine) : m__law_pairs [.ptr j] S = .ok (toD (rowsT kvs)) S := by
  have ln : (kvs.filter fz).length ≤ kvs.length := List.length_filter_le _ _
  refine m_defJ hS (cl _ _) ?_
  show (b__law_pairs [some (.ptr j), none, none] S).post _ _ _ _
  unfold b__law_pairs
  refine s_lockS hd hj rfl ?_
  walk_at "3"
  refine p_lcItems kvs fz toD hd hj rfl (Nat.le_of_ble_eq_true rfl) (Nat.le_of_ble_eq_true rfl) hl (fun p hp => ?_) (fun p hp _ => ?_) ?_
  · refine exact_of ?_
    dsimp only [in2, wipeD, List.set_cons_zero, List.set_cons_succ]
    rw [toD_rat]
    walk_at "3"
    refine ⟨?_, rfl⟩
    rw [num_beq]
    rfl
  · refine exact_of ?_
    dsimp only [in2, wipeD, List.set_cons_zero, List.set_cons_succ]
    walk_at "3"
    exact ⟨rfl, rfl⟩
  · walk_at "3"
    refine p_lift (a := .lst ((rowsT kvs).map toD)) (show Option.map D.lst (sortD _ ((kvs.filter fz).map toD)) = _ from by rw [sortD_emb _ _ (by omega)]; rfl) ?_
    walk_at "3"
    refine p_lift (show gTuple _ [.lst ((rowsT kvs).map toD)] = some (.tup ((rowsT kvs).map toD)) from rfl) ?_
    exact ⟨rfl, rfl, List.take_length⟩
theorem lput_spec {S : Sto} {j : Nat} {u : D} {kvs : List (κ × Rat)} (hS : Sane S) (hd : IsDic u kvs) (hj : S[j]? = some u) (hl : kvs.length < sizeLine) (k : κ) (q : Rat) {B : Nat} (hB : B ≤ 2 ^ 4000) (hb : ∀ p ∈ kvs, RB' B p.2) (hq : RB' B q) :
    ∃ u', m__law_put [.ptr j, toD k, toD q] S = .ok .non (S.set j u') ∧ IsDic u' (putT kvs k ((getT kvs k).getD 0 + q)) := by
  obtain ⟨u', e', hu'⟩ := dic_putU hd hl k ((getT kvs k).getD 0 + q)
  refine ⟨u', ?_, hu'⟩
  have hlt := (List.getElem?_eq_some_iff.mp hj).1
  refine exact_of (m_def ?_)
  show (b__law_put [some (.ptr j), some (toD k), some (toD q)] S).post _ _ _ _
  unfold b__law_put
  walk_at "3"
  refine ⟨dic_isDct hd hj, ?_⟩
  walk_at "3"
  refine ⟨_, dic_lookU hd hj k, ?_⟩
  have ev : ((getT kvs k).map toD).getD (.tup [.int 0, .int 1]) = toD ((getT kvs k).getD 0) := by cases getT kvs k <;> rfl
  rw [ev]
  walk_at "3"
  refine Res.post.of_eq (lplus_spec _ q ?_ hq hB S hS) ?_
  · cases e : getT kvs k with
    | none => exact ⟨Nat.zero_le _, by have := hq.2; have := q.den_pos; show 1 ≤ B; omega⟩
    | some w => exact hb _ (getT_mem e)
  walk_at "3"
  refine ⟨j, u, u', rfl, hj, e', ?_⟩
  have ln : (S.set j u').length = S.length := List.length_set
  have tk : (S.set j u').take S.length = S.set j u' := by rw [← ln, List.take_length]
  rw [tk]
  refine ⟨?_, rfl, rfl⟩
  have := sane_set hS (isDic_closed hu' S.length) (k := j)
  unfold Sane at this
  rwa [ln] at this
end
end DL

set_option Elab.async false
set_option linter.all false
set_option maxRecDepth 100000
set_option maxHeartbeats 4000000
set_option autoImplicit false
/-! Sums of rows. -/
namespace DL
open PySem L2
open Emb
local macro_rules | `(tactic| walk_at "1") => `(tactic| with_reducible first
  | refine s_seq ?_ | refine s_asg ?_ | refine s_ret ?_ | refine s_if ?_ | refine s_expr ?_ | refine s_next ?_ | refine s_brk ?_ | refine s_cont ?_ | refine s_for ?_ | refine s_while ?_
  | refine p_c ?_ | refine p_bin ?_ | refine p_as ?_ | refine p_cons ?_ | refine p_nil ?_ | refine p_un ?_ | refine p_call ?_ | refine p_if ?_ | refine p_own ?_
  | refine p_keep ?_ | refine p_tru ?_ | refine p_and ?_ | refine p_or ?_ | refine p_not ?_ | refine p_val ?_ | refine p_rand ?_ | refine p_ror ?_ | refine p_rnot ?_ | refine p_chain ?_ | refine p_bif ?_
  | refine o_add ?_ | refine o_sub ?_ | refine o_ltU ?_ | refine o_leU ?_ | refine o_gtU ?_ | refine o_geU ?_ | refine o_neg ?_ | refine o_eqI ?_ | refine o_neI ?_ | refine o_abs ?_ | refine o_tru ?_ | refine p_true ?_ | refine p_false ?_
  | refine o_lenT ?_ | refine o_lenL ?_ | refine o_ix0 ?_ | refine o_ix1 ?_ | refine o_ix2 ?_ | refine o_ix0L ?_ | refine o_ix1L ?_ | refine o_ix2L ?_
  | refine s_par ?_ | refine p_yes ?_ | refine p_seq ?_ | refine s_gnil ?_ | refine s_gcons ?_ | refine s_gtux ?_ | refine s_gtupl ?_ | refine p_onone ?_ | refine p_osome ?_ | refine p_get2 ?_ | refine s_putU ?_ | refine p_sortIt ?_)
local macro_rules | `(tactic| walk_at "2") => `(tactic| first
  | walk_at "1"
  | (with_reducible refine p_var2 ?_)
  | ((with_reducible refine s_name ?_ ?_); (· exact Nat.le_of_ble_eq_true rfl); dsimp only [List.set_cons_zero, List.set_cons_succ])
  | (with_reducible refine p_tup ?_) | (with_reducible refine p_lst ?_) | ((with_reducible refine ⟨?_, ?_⟩); (· exact Nat.le_of_ble_eq_true rfl))
  | ((with_reducible refine p_ex2 (x := ?_) (y := ?_) ?_ ?_); rotate_left; rotate_left; (· rfl); refine ⟨?_, ?_, ?_⟩; (· exact Nat.le_of_ble_eq_true rfl); (· exact Nat.le_of_ble_eq_true rfl); dsimp only [List.set_cons_zero, List.set_cons_succ])
  | ((with_reducible refine p_isT ?_ ?_); (· rfl)) | ((with_reducible refine p_isF ?_ ?_); (· rfl))
  | ((with_reducible refine p_ex (x := ?_) ?_ ?_); rotate_left; (· rfl)))
local macro_rules | `(tactic| walk_at "3") => `(tactic| repeat walk_at "2")
/-! ### sums of rows -/
section
variable {κ : Type} [DecidableEq κ]
def at0 (kvs : List (κ × Rat)) (q : κ) : Rat := (getT kvs q).getD 0
def addT (acc : List (κ × Rat)) (k : κ) (q : Rat) : List (κ × Rat) := putT acc k ((getT acc k).getD 0 + q)
def sumT (one other : List (κ × Rat)) : List (κ × Rat) := other.foldl (fun acc p => addT acc p.1 p.2) (mergeT [] one)
theorem at0_put (kvs : List (κ × Rat)) (k q : κ) (v : Rat) : at0 (putT kvs k v) q = if q = k then v else at0 kvs q := by
  unfold at0
  rw [getT_put]
  split <;> rfl
theorem at0_add (kvs : List (κ × Rat)) (k q : κ) (v : Rat) : at0 (addT kvs k v) q = if q = k then at0 kvs k + v else at0 kvs q := at0_put _ _ _ _
theorem at0_nil (q : κ) : at0 ([] : List (κ × Rat)) q = 0 := rfl
theorem at0_cons (k q : κ) (v : Rat) (r : List (κ × Rat)) : at0 ((k, v) :: r) q = if k = q then v else at0 r q := by
  unfold at0
  rw [getT_cons]
  split <;> rfl
theorem nd_add {kvs : List (κ × Rat)} (h : ND kvs) (k : κ) (v : Rat) : ND (addT kvs k v) := nd_put h _ _
theorem nd_tail {p : κ × Rat} {r : List (κ × Rat)} (h : ND (p :: r)) : p.1 ∉ r.map (·.1) ∧ ND r := by
  unfold ND at h
  rw [List.map_cons, List.nodup_cons] at h
  exact h
theorem at0_none {kvs : List (κ × Rat)} {q : κ} (h : q ∉ kvs.map (·.1)) : at0 kvs q = 0 := by
  unfold at0
  rw [getT_none.mpr h]
  rfl
theorem at0_fold : ∀ (other acc : List (κ × Rat)), ND other → ∀ q, at0 (other.foldl (fun acc p => addT acc p.1 p.2) acc) q = at0 acc q + at0 other q
  | [], acc, _, q => by rw [at0_nil]; show at0 acc q = _; grind
  | p :: r, acc, h, q => by
    obtain ⟨h1, h2⟩ := nd_tail h
    show at0 (r.foldl _ (addT acc p.1 p.2)) q = _
    rw [at0_fold r _ h2, at0_add, show p :: r = (p.1, p.2) :: r from rfl, at0_cons]
    by_cases z : q = p.1
    · subst z
      rw [if_pos rfl, if_pos rfl, at0_none h1]
      grind
    · rw [if_neg z, if_neg (Ne.symm z)]
theorem nd_fold : ∀ (other acc : List (κ × Rat)), ND acc → ND (other.foldl (fun acc p => addT acc p.1 p.2) acc)
  | [], _, h => h
  | _ :: r, _, h => nd_fold r _ (nd_add h _ _)
theorem len_fold : ∀ (other acc : List (κ × Rat)), (other.foldl (fun acc p => addT acc p.1 p.2) acc).length ≤ acc.length + other.length
  | [], _ => Nat.le_refl _
  | p :: r, acc => by
    have h1 := len_fold r (addT acc p.1 p.2)
    have h2 := put_len acc p.1 ((getT acc p.1).getD 0 + p.2)
    have h2 : (addT acc p.1 p.2).length ≤ acc.length + 1 := h2
    rw [List.length_cons]
    show (r.foldl _ (addT acc p.1 p.2)).length ≤ _
    omega
theorem at0_sum {one other : List (κ × Rat)} (h1 : ND one) (h2 : ND other) (q : κ) : at0 (sumT one other) q = at0 one q + at0 other q := by
  unfold sumT
  rw [at0_fold other _ h2, merge_id h1]
theorem nd_sum {one other : List (κ × Rat)} (h1 : ND one) : ND (sumT one other) := by
  unfold sumT
  rw [merge_id h1]
  exact nd_fold _ _ h1
theorem len_sum {one other : List (κ × Rat)} (h1 : ND one) : (sumT one other).length ≤ one.length + other.length := by
  unfold sumT
  rw [merge_id h1]
  exact len_fold _ _
/-- bounds on the way: what is left to come is as it was -/
def Bnd (B C : Nat) (acc rest : List (κ × Rat)) : Prop := (∀ p ∈ acc, RB' C p.2) ∧ ∀ p ∈ rest, RB' B p.2 ∧ ∀ w, getT acc p.1 = some w → RB' B w
theorem bnd_step {B C : Nat} (hC : 2 * (B * B) ≤ C) (hB : B ≤ C) (h1B : 1 ≤ B) {acc r : List (κ × Rat)} {p : κ × Rat} (h : Bnd B C acc (p :: r)) (hn : ND (p :: r)) : Bnd B C (addT acc p.1 p.2) r := by
  obtain ⟨h1, h2⟩ := h
  have hp := h2 p List.mem_cons_self
  refine ⟨put_all h1 ?_, fun q hq => ⟨(h2 q (List.mem_cons_of_mem _ hq)).1, fun w hw => ?_⟩⟩
  · show RB' C ((getT acc p.1).getD 0 + p.2)
    refine rb_mono (rb_add (A := B) (B := B) ?_ hp.1) hC
    cases e : getT acc p.1 with
    | none => exact ⟨Nat.zero_le _, h1B⟩
    | some w => exact hp.2 w e
  · unfold addT at hw
    rw [getT_put, if_neg (fun z : q.1 = p.1 => (nd_tail hn).1 (by rw [← z]; exact List.mem_map.mpr ⟨q, hq, rfl⟩))] at hw
    exact (h2 q (List.mem_cons_of_mem _ hq)).2 w hw
theorem bnd_fold {B C : Nat} (hC : 2 * (B * B) ≤ C) (hB : B ≤ C) (h1B : 1 ≤ B) : ∀ {other acc : List (κ × Rat)}, Bnd B C acc other → ND other → ∀ p ∈ other.foldl (fun acc p => addT acc p.1 p.2) acc, RB' C p.2
  | [], _, h, _ => h.1
  | p :: r, acc, h, hn => bnd_fold (other := r) (acc := addT acc p.1 p.2) hC hB h1B (bnd_step hC hB h1B h hn) (nd_tail hn).2
theorem bnd_init {B C : Nat} (hB : B ≤ C) {one other : List (κ × Rat)} (h1 : ∀ p ∈ one, RB' B p.2) (h2 : ∀ p ∈ other, RB' B p.2) : Bnd B C one other :=
  ⟨fun p hp => rb_mono (h1 p hp) hB, fun p hp => ⟨h2 p hp, fun _ hw => h1 _ (getT_mem hw)⟩⟩
theorem rb_sum {B C : Nat} (hC : 2 * (B * B) ≤ C) (hB : B ≤ C) (h1B : 1 ≤ B) {one other : List (κ × Rat)} (n1 : ND one) (n2 : ND other) (h1 : ∀ p ∈ one, RB' B p.2) (h2 : ∀ p ∈ other, RB' B p.2) : ∀ p ∈ sumT one other, RB' C p.2 := by
  unfold sumT
  rw [merge_id n1]
  exact bnd_fold hC hB h1B (bnd_init hB h1 h2) n2
end
section
variable {κ : Type} [Emb κ] [DecidableEq κ]
theorem nd_rows {kvs : List (κ × Rat)} (h : ND kvs) : Inc (rowsT kvs) := inc_srt (nd_filter _ h)
theorem at0_rows {kvs : List (κ × Rat)} (h : ND kvs) (q : κ) : at0 (rowsT kvs) q = at0 kvs q := by
  unfold at0 rowsT
  rw [get_srt (nd_filter _ h), get_filter _ h]
  cases e : getT kvs q with
  | none => rfl
  | some w =>
    by_cases z : w = 0
    · subst z; rfl
    · have : (some w).filter (fun v => fz (q, v)) = some w := by simp [Option.filter, fz, z]
      rw [this]
theorem rows_nz {kvs : List (κ × Rat)} : ∀ p ∈ rowsT kvs, p ∈ kvs ∧ p.2 ≠ 0 := fun p hp => by
  obtain ⟨h1, h2⟩ := List.mem_filter.mp (srt_mem.mp hp)
  exact ⟨h1, fun z => by unfold fz at h2; rw [z] at h2; exact absurd h2 (by decide)⟩
theorem rows_len (kvs : List (κ × Rat)) : (rowsT kvs).length ≤ kvs.length := by
  unfold rowsT
  rw [srt_len]
  exact List.length_filter_le _ _
/-- rows in order without noughts: what they are at each place tells them -/
theorem rows_one {a b : List (κ × Rat)} (ha : Inc a) (hb : Inc b) (za : ∀ p ∈ a, p.2 ≠ 0) (zb : ∀ p ∈ b, p.2 ≠ 0) (h : ∀ q, at0 a q = at0 b q) : a = b := by
  refine inc_one ha hb fun q => ?_
  have h := h q
  unfold at0 at h
  cases e : getT a q with
  | none =>
    cases e2 : getT b q with
    | none => rfl
    | some w => rw [e, e2] at h; exact absurd h.symm (zb _ (getT_mem e2))
  | some v =>
    cases e2 : getT b q with
    | none => rw [e, e2] at h; exact absurd h (za _ (getT_mem e))
    | some w => rw [e, e2] at h; exact congrArg some h
theorem rows_ext {a b : List (κ × Rat)} (ha : ND a) (hb : ND b) (h : ∀ q, at0 a q = at0 b q) : rowsT a = rowsT b :=
  rows_one (nd_rows ha) (nd_rows hb) (fun p hp => (rows_nz p hp).2) (fun p hp => (rows_nz p hp).2) fun q => by rw [at0_rows ha, at0_rows hb, h]
theorem rows_id {a : List (κ × Rat)} (ha : Inc a) (za : ∀ p ∈ a, p.2 ≠ 0) : rowsT a = a :=
  rows_one (nd_rows (inc_nd ha)) ha (fun p hp => (rows_nz p hp).2) za fun q => at0_rows (inc_nd ha) q
end
/-! ### the walk of a sum -/
/-- m adds a fraction to a dict's -/
def Adds (κ : Type) [Emb κ] [DecidableEq κ] [KeyE κ] (m : Mir) : Prop := ∀ {S : Sto} {j : Nat} {u : D} {kvs : List (κ × Rat)}, Sane S → IsDic u kvs → S[j]? = some u → kvs.length < sizeLine → ∀ (k : κ) (q : Rat) {B : Nat}, B ≤ 2 ^ 4000 → (∀ p ∈ kvs, RB' B p.2) → RB' B q →
  ∃ u', m [.ptr j, toD k, toD q] S = .ok .non (S.set j u') ∧ IsDic u' (addT kvs k q)
section
variable {κ : Type} [Emb κ] [DecidableEq κ] [KeyE κ]
theorem sum_post {m : Mir} (hm : Adds κ m) {S : Sto} (hS : Sane S) {one other : List (κ × Rat)} (n1 : ND one) (n2 : ND other) {B C : Nat} (hC : 2 * (B * B) ≤ C) (hB : B ≤ C) (h1B : 1 ≤ B) (hC2 : C ≤ 2 ^ 4000) (b1 : ∀ p ∈ one, RB' B p.2) (b2 : ∀ p ∈ other, RB' B p.2) (hl : one.length + other.length < sizeLine)
    {rest : RS} {N B' C' : Sl → Sto → Prop} {T : D → Sto → Prop} (h : ∀ u o3 o4, IsDic u (sumT one other) → (rest [some (toD one), some (toD other), some (.ptr S.length), o3, o4] (S ++ [u])).post N T B' C') :
    ((sSeq (sAsg (rOwn (rAs gDict (rCons (rVar 0) rNil))) (gName 2)) (sSeq (sFor (rSeq (rVar 1)) (gTup (gCons (gName 3) (gCons (gName 4) gNil))) (sExpr (rCall m (rCons (rVar 2) (rCons (rVar 3) (rCons (rVar 4) rNil)))))) rest)) [some (toD one), some (toD other), none, none, none] S).post N T B' C' := by
  obtain ⟨u, _, e, hu⟩ := dict_of S one
  walk_at "3"
  refine p_lift (show gDict S [toD one] = some u from e) ?_
  walk_at "3"
  refine .inr (.inl ⟨other.map toD, rfl, ?_⟩)
  refine s_forT toD (fun xs δ S2 => ∃ acc u o3 o4, S2 = S ++ [u] ∧ IsDic u acc ∧ xs.foldl (fun acc p => addT acc p.1 p.2) acc = sumT one other ∧ ND xs ∧ Bnd B C acc xs ∧ acc.length + xs.length < sizeLine ∧ δ = [some (toD one), some (toD other), some (.ptr S.length), o3, o4]) ?_ ?_ _ _ _ ⟨mergeT [] one, u, none, none, rfl, hu, rfl, n2, ?_, ?_, rfl⟩
  · rintro x xs δ S2 ⟨acc, u, o3, o4, rfl, hu, hf, hn, hb, hl, rfl⟩
    show (gTup _ (.tup [toD x.1, toD x.2]) _ _).post _
    walk_at "3"
    rw [List.length_cons] at hl
    obtain ⟨u', e', hu'⟩ := hm (sane_app hS (isDic_closed hu _)) hu (get_app (S := S)) (by omega) x.1 x.2 hC2 hb.1 (rb_mono (hb.2 x List.mem_cons_self).1 hB)
    refine Res.post.of_eq e' ?_
    rw [set_app]
    refine ⟨addT acc x.1 x.2, u', _, _, rfl, hu', hf, (nd_tail hn).2, bnd_step hC hB h1B hb hn, ?_, rfl⟩
    have : (addT acc x.1 x.2).length ≤ acc.length + 1 := put_len _ _ _
    omega
  · rintro δ S2 ⟨acc, u, o3, o4, rfl, hu, hf, hn, hb, hl, rfl⟩
    exact h u o3 o4 (by rw [← hf]; exact hu)
  · rw [merge_id n1]; exact bnd_init hB b1 b2
  · rw [merge_id n1]; exact hl
variable [Sok (κ × Rat)]
theorem lput_adds : Adds κ m__law_put := fun hS hd hj hl k q _ hB hb hq => lput_spec hS hd hj hl k q hB hb hq
end
/-- a form's plain -/
def plainT (rows : List (Kind × Rat)) : List (Mono × Rat) := rowsT (mergeT [] (rows.map fun p => (p.1.m, p.2)))
end DL

set_option Elab.async false
set_option linter.all false
set_option maxRecDepth 100000
set_option maxHeartbeats 4000000
set_option autoImplicit false
/-! Forms that are drawn. -/
namespace DL
open PySem L2
open Emb
local macro_rules | `(tactic| walk_at "1") => `(tactic| with_reducible first
  | refine s_seq ?_ | refine s_asg ?_ | refine s_ret ?_ | refine s_if ?_ | refine s_expr ?_ | refine s_next ?_ | refine s_brk ?_ | refine s_cont ?_ | refine s_for ?_ | refine s_while ?_
  | refine p_c ?_ | refine p_bin ?_ | refine p_as ?_ | refine p_cons ?_ | refine p_nil ?_ | refine p_un ?_ | refine p_call ?_ | refine p_if ?_ | refine p_own ?_
  | refine p_keep ?_ | refine p_tru ?_ | refine p_and ?_ | refine p_or ?_ | refine p_not ?_ | refine p_val ?_ | refine p_rand ?_ | refine p_ror ?_ | refine p_rnot ?_ | refine p_chain ?_ | refine p_bif ?_
  | refine o_add ?_ | refine o_sub ?_ | refine o_ltU ?_ | refine o_leU ?_ | refine o_gtU ?_ | refine o_geU ?_ | refine o_neg ?_ | refine o_eqI ?_ | refine o_neI ?_ | refine o_abs ?_ | refine o_tru ?_ | refine p_true ?_ | refine p_false ?_
  | refine o_lenT ?_ | refine o_lenL ?_ | refine o_ix0 ?_ | refine o_ix1 ?_ | refine o_ix2 ?_ | refine o_ix0L ?_ | refine o_ix1L ?_ | refine o_ix2L ?_
  | refine s_par ?_ | refine p_yes ?_ | refine p_seq ?_ | refine s_gnil ?_ | refine s_gcons ?_ | refine s_gtux ?_ | refine s_gtupl ?_ | refine p_onone ?_ | refine p_osome ?_ | refine p_get2 ?_ | refine s_putU ?_ | refine p_sortIt ?_)
local macro_rules | `(tactic| walk_at "2") => `(tactic| first
  | walk_at "1"
  | (with_reducible refine p_var2 ?_)
  | ((with_reducible refine s_name ?_ ?_); (· exact Nat.le_of_ble_eq_true rfl); dsimp only [List.set_cons_zero, List.set_cons_succ])
  | (with_reducible refine p_tup ?_) | (with_reducible refine p_lst ?_) | ((with_reducible refine ⟨?_, ?_⟩); (· exact Nat.le_of_ble_eq_true rfl))
  | ((with_reducible refine p_ex2 (x := ?_) (y := ?_) ?_ ?_); rotate_left; rotate_left; (· rfl); refine ⟨?_, ?_, ?_⟩; (· exact Nat.le_of_ble_eq_true rfl); (· exact Nat.le_of_ble_eq_true rfl); dsimp only [List.set_cons_zero, List.set_cons_succ])
  | ((with_reducible refine p_isT ?_ ?_); (· rfl)) | ((with_reducible refine p_isF ?_ ?_); (· rfl))
  | ((with_reducible refine p_ex (x := ?_) ?_ ?_); rotate_left; (· rfl)))
local macro_rules | `(tactic| walk_at "3") => `(tactic| repeat walk_at "2")
/-! ### forms that are drawn -/
structure KindG (n : Nat) (k : Kind) : Prop where
  m : MonO n k.m
  p0 : 0 ≤ k.p
  p1 : k.p ≤ 3
  b : k.b.natAbs ≤ 10 ^ 10
/-- rows of such kinds -/
structure FormG (l n : Nat) (rows : List (Kind × Rat)) : Prop where
  inc : Inc rows
  len : rows.length ≤ l
  kinds : ∀ p ∈ rows, KindG n p.1
  nz : ∀ p ∈ rows, p.2 ≠ 0
  rb : ∀ p ∈ rows, RB' (10 ^ 21) p.2
theorem ratnz {a b : Int} (ha : a ≠ 0) (hb : 0 < b) : (a : Rat) / (b : Rat) ≠ 0 := by
  intro h
  have ha' : (a : Rat) ≠ 0 := by simp; omega
  have hb' : (b : Rat) ≠ 0 := by simp; omega
  grind
theorem kind_made (m : Mono) (p b : Int) : D.tup [toD m, .int p, .int b] = toD (Kind.mk m p b) := rfl
theorem den_le {a b : Int} (hb : 0 < b) : ((a : Rat) / (b : Rat)).den ≤ b.natAbs := by
  have h := (rat_of (a := a) hb).2
  have hg : 0 < Int.gcd a b := Int.gcd_pos_of_ne_zero_right _ (by omega)
  rw [Int.fdiv_eq_ediv_of_nonneg _ (by omega)] at h
  have h2 := Int.natAbs_ediv_le_natAbs b (Int.gcd a b : Int)
  rw [← h] at h2
  simpa using h2
theorem form_spec2 {c : Nat} {S : Sto} (h : Sta c S) (hc : c < 2 ^ 39) (l n : Nat) (hl : l ≤ 100) (hn : n ≤ 100) : (m__law_form [.ptr 1, .int l, .int n] S).post fun d S' => ∃ rows, d = toD rows ∧ FormG l n rows ∧ Go (c + 20000) S S' ∧ ∀ p ∈ rows, p.2.den ≤ 60 := by
  refine m_defG (c := c + 20000) ?_
  show (b__law_form [some (.ptr 1), some (.int l), some (.int n), none, none, none] S).post _ _ _ _
  unfold b__law_form
  have l2 := h.len
  have h1 : Sta c (S ++ [.dct []]) := h.app rfl
  walk_at "3"
  with_reducible refine p_range1 ?_
  walk_at "3"
  refine (draw_spec h1 (by omega) (l + 1) (by omega) (by omega)).mono ?_
  rintro _ S1 ⟨j, rfl, j0, j1, g1⟩
  walk_at "3"
  refine ⟨by omega, by omega, ?_⟩
  have e0 : S1[S.length]? = some (.dct []) := by rw [g1.rest _ l2]; exact get_app
  refine s_forL (fun xs δ S2 => ∃ (t : Nat) (u : D) (kvs : List (Kind × Rat)), xs.length + t ≤ l ∧ Sta (c + 1 + (n + 20) * t) S2 ∧ S2.length = S.length + 1 ∧ S2[S.length]? = some u ∧ IsDic u kvs ∧ ND kvs ∧ kvs.length ≤ t ∧ (∀ p ∈ kvs, KindG n p.1 ∧ p.2 ≠ 0 ∧ RB' (10 ^ 21) p.2 ∧ p.2.den ≤ 60) ∧ (∀ k, 2 ≤ k → k < S.length → S2[k]? = S[k]?) ∧ ∃ o4 o5, δ = [some (.ptr 1), some (.int l), some (.int n), some (.ptr S.length), o4, o5]) ?_ ?_ _ _ _ ⟨0, _, [], ?_, g1.sta, ?_, e0, isDic_nil, List.nodup_nil, Nat.le_refl _, (fun _ z => nomatch z), ?_, _, _, rfl⟩
  · rintro x xs δ S2 ⟨t, u, kvs, ht, hs, hlen, hk, hu, hnd, hle, hall, hr, o4, o5, rfl⟩
    rw [List.length_cons] at ht
    have hmul : (n + 20) * t ≤ 120 * 100 := Nat.mul_le_mul (by omega) (by omega)
    have hmul2 : (n + 20) * (t + 1) = (n + 20) * t + (n + 20) := by rw [Nat.mul_add, Nat.mul_one]
    walk_at "3"
    refine (mono_spec hs (by omega) n hn).mono ?_
    rintro _ S3 ⟨m, rfl, hm, g3⟩
    walk_at "3"
    refine (of_spec g3.sta (by omega) (by simp) (by simp) (fun y hy => by
      simp only [List.mem_cons, List.not_mem_nil, or_false] at hy
      rcases hy with rfl | rfl | rfl | rfl | rfl | rfl | rfl <;> rfl)).mono ?_
    rintro d S4 ⟨hd, g4⟩
    have hd' : ∃ p : Int, d = .int p ∧ 0 ≤ p ∧ p ≤ 3 := by
      simp only [List.mem_cons, List.not_mem_nil, or_false] at hd
      rcases hd with rfl | rfl | rfl | rfl | rfl | rfl | rfl <;> exact ⟨_, rfl, by decide, by decide⟩
    obtain ⟨p, rfl, hp0, hp1⟩ := hd'
    walk_at "3"
    refine (base_spec g4.sta (by omega)).mono ?_
    rintro d S5 ⟨b, rfl, hb, g5⟩
    walk_at "3"
    refine (number_spec g5.sta (by omega)).mono ?_
    rintro d S6 ⟨a, rfl, ha0, ha, g6⟩
    walk_at "3"
    refine (of_spec g6.sta (by omega) (by simp) (by simp) (fun y hy => by
      simp only [List.mem_cons, List.not_mem_nil, or_false] at hy
      rcases hy with rfl | rfl | rfl | rfl <;> rfl)).mono ?_
    rintro d S7 ⟨hd, g7⟩
    have hd' : ∃ p : Int, d = .int p ∧ 0 < p ∧ p ≤ 60 := by
      simp only [List.mem_cons, List.not_mem_nil, or_false] at hd
      rcases hd with rfl | rfl | rfl | rfl <;> exact ⟨_, rfl, by decide, by decide⟩
    obtain ⟨w, rfl, w0, w1⟩ := hd'
    walk_at "3"
    refine (draw_spec g7.sta (by omega) w w0 (by omega)).mono ?_
    rintro _ S8 ⟨i, rfl, i0, i1, g8⟩
    walk_at "3"
    refine Res.post.of_eq (lshare_spec a (1 + i) (by omega) (Nat.lt_of_lt_of_le (show (1 + i).natAbs < 2 ^ 10 by omega) (Nat.pow_le_pow_right (by decide) (by decide))) S8 g8.sta.sane) ?_
    walk_at "3"
    have gg := (((((g3.trans g4).trans g5).trans g6).trans g7).trans g8)
    have hk8 : S8[S.length]? = some u := by rw [gg.rest _ l2]; exact hk
    obtain ⟨u', e', hu'⟩ := dic_putU hu (Nat.lt_of_le_of_lt (show kvs.length ≤ 100 by omega) (by decide)) (Kind.mk m p b) ((a : Rat) / ((1 + i : Int) : Rat))
    rw [kind_made]
    refine ⟨S.length, u, u', rfl, hk8, e', ?_⟩
    have hl8 : S8.length = S.length + 1 := gg.len.trans hlen
    obtain ⟨ns, rs, at', q0, q1, q2, q3, q4⟩ := gg.sta.ex
    refine ⟨t + 1, u', _, by omega, ⟨⟨ns, rs, at', ?_, ?_, q2, q3, by omega⟩, sane_set gg.sta.sane (isDic_closed hu' _)⟩, by rw [List.length_set]; exact hl8, List.getElem?_set_self (by omega), hu', nd_put hnd _ _, Nat.le_trans (put_len _ _ _) (by omega), put_all hall ⟨⟨hm, hp0, hp1, hb⟩, ratnz ha0 (by omega), rb_of (by omega) ha (by omega), Nat.le_trans (den_le (by omega)) (by omega)⟩, fun k k1 k2 => ?_, _, _, rfl⟩
    · rw [List.getElem?_set_ne (by omega)]; exact q0
    · rw [List.getElem?_set_ne (by omega)]; exact q1
    · rw [List.getElem?_set_ne (by omega), gg.rest k k1]; exact hr k k1 k2
  · rintro δ S2 ⟨t, u, kvs, ht, hs, hlen, hk, hu, hnd, hle, hall, hr, o4, o5, rfl⟩
    have tl : t ≤ l := by simpa using ht
    have hmul : (n + 20) * t ≤ 120 * 100 := Nat.mul_le_mul (by omega) (by omega)
    walk_at "3"
    refine Res.post.of_eq (lpairs_spec hs.sane hu hk (Nat.le_trans (show kvs.length ≤ 100 by omega) (by decide))) ?_
    have gg : Go (c + 20000) S (S2.take S.length) := go_take h.sane l2 (hs.le (by omega)) (by omega) hr
    have rl := rows_len kvs
    exact ⟨cl _ _, gg, rowsT kvs, rfl, ⟨nd_rows hnd, by omega, fun p hp => (hall p (rows_nz p hp).1).1, fun p hp => (rows_nz p hp).2, fun p hp => (hall p (rows_nz p hp).1).2.2.1⟩, gg, fun p hp => (hall p (rows_nz p hp).1).2.2.2⟩
  · unfold rangeD
    rw [List.length_map, List.length_range]
    omega
  · rw [g1.len, List.length_append]; rfl
  · intro k k1 k2
    rw [g1.rest k k1, List.getElem?_append_left k2]
theorem form_spec {c : Nat} {S : Sto} (h : Sta c S) (hc : c < 2 ^ 39) (l n : Nat) (hl : l ≤ 100) (hn : n ≤ 100) : (m__law_form [.ptr 1, .int l, .int n] S).post fun d S' => ∃ rows, d = toD rows ∧ FormG l n rows ∧ Go (c + 20000) S S' :=
  (form_spec2 h hc l n hl hn).mono fun _ _ ⟨rows, h1, h2, h3, _⟩ => ⟨rows, h1, h2, h3⟩
end DL

set_option Elab.async false
set_option linter.all false
set_option maxRecDepth 100000
set_option maxHeartbeats 4000000
set_option autoImplicit false
/-! The program's fractions, sums of rows. -/
namespace DL
open PySem L2
open Emb
local macro_rules | `(tactic| walk_at "1") => `(tactic| with_reducible first
  | refine s_seq ?_ | refine s_asg ?_ | refine s_ret ?_ | refine s_if ?_ | refine s_expr ?_ | refine s_next ?_ | refine s_brk ?_ | refine s_cont ?_ | refine s_for ?_ | refine s_while ?_
  | refine p_c ?_ | refine p_bin ?_ | refine p_as ?_ | refine p_cons ?_ | refine p_nil ?_ | refine p_un ?_ | refine p_call ?_ | refine p_if ?_ | refine p_own ?_
  | refine p_keep ?_ | refine p_tru ?_ | refine p_and ?_ | refine p_or ?_ | refine p_not ?_ | refine p_val ?_ | refine p_rand ?_ | refine p_ror ?_ | refine p_rnot ?_ | refine p_chain ?_ | refine p_bif ?_
  | refine o_add ?_ | refine o_sub ?_ | refine o_ltU ?_ | refine o_leU ?_ | refine o_gtU ?_ | refine o_geU ?_ | refine o_neg ?_ | refine o_eqI ?_ | refine o_neI ?_ | refine o_abs ?_ | refine o_tru ?_ | refine p_true ?_ | refine p_false ?_
  | refine o_lenT ?_ | refine o_lenL ?_ | refine o_ix0 ?_ | refine o_ix1 ?_ | refine o_ix2 ?_ | refine o_ix0L ?_ | refine o_ix1L ?_ | refine o_ix2L ?_
  | refine s_par ?_ | refine p_yes ?_ | refine p_seq ?_ | refine s_gnil ?_ | refine s_gcons ?_ | refine s_gtux ?_ | refine s_gtupl ?_ | refine p_onone ?_ | refine p_osome ?_ | refine p_get2 ?_ | refine s_putU ?_ | refine p_sortIt ?_)
local macro_rules | `(tactic| walk_at "2") => `(tactic| first
  | walk_at "1"
  | (with_reducible refine p_var2 ?_)
  | ((with_reducible refine s_name ?_ ?_); (· exact Nat.le_of_ble_eq_true rfl); dsimp only [List.set_cons_zero, List.set_cons_succ])
  | (with_reducible refine p_tup ?_) | (with_reducible refine p_lst ?_) | ((with_reducible refine ⟨?_, ?_⟩); (· exact Nat.le_of_ble_eq_true rfl))
  | ((with_reducible refine p_ex2 (x := ?_) (y := ?_) ?_ ?_); rotate_left; rotate_left; (· rfl); refine ⟨?_, ?_, ?_⟩; (· exact Nat.le_of_ble_eq_true rfl); (· exact Nat.le_of_ble_eq_true rfl); dsimp only [List.set_cons_zero, List.set_cons_succ])
  | ((with_reducible refine p_isT ?_ ?_); (· rfl)) | ((with_reducible refine p_isF ?_ ?_); (· rfl))
  | ((with_reducible refine p_ex (x := ?_) ?_ ?_); rotate_left; (· rfl)))
local macro_rules | `(tactic| walk_at "3") => `(tactic| repeat walk_at "2")
theorem gcd_spec (a b : Int) (S : Sto) (hS : Sane S) : m_common_divisor [.int a, .int b] S = .ok (.int (Int.gcd a b)) S := by
  refine m_defS hS rfl ?_
  show (b_common_divisor [some (.int a), some (.int b)] S).post _ _ _ _
  unfold b_common_divisor
  repeat walk_at "2"
  refine s_whileL (fun n δ S1 => S1 = S ∧ ∃ x y : Nat, y ≤ n ∧ Nat.gcd x y = Int.gcd a b ∧ δ = [some (.int x), some (.int y)]) ?_ b.natAbs _ _ _ ⟨rfl, a.natAbs, b.natAbs, Nat.le_refl _, rfl, rfl⟩ (by show b.natAbs < (b.natAbs : Int).natAbs + 1; omega)
  rintro n δ S1 ⟨rfl, x, y, hn, hg, rfl⟩
  repeat walk_at "2"
  constructor
  · intro h
    have h : (0 : Int) < y := of_decide_eq_true h
    have hy : 0 < y := by omega
    obtain ⟨m, rfl⟩ : ∃ m, n = m + 1 := ⟨n - 1, by omega⟩
    refine ⟨m, rfl, ?_⟩
    repeat walk_at "2"
    refine o_mod (by omega) ?_
    repeat walk_at "2"
    have e : Int.fmod x y = ((x % y : Nat) : Int) := by rw [Int.fmod_eq_emod_of_nonneg _ (by omega)]; rfl
    have l : x % y < y := Nat.mod_lt _ hy
    refine ⟨rfl, y, x % y, by omega, ?_, by rw [e]⟩
    rw [← hg, Nat.gcd_comm y, ← Nat.gcd_rec, Nat.gcd_comm]
  · intro h
    have h : ¬ (0 : Int) < y := of_decide_eq_false h
    have hy : y = 0 := by omega
    subst hy
    repeat walk_at "2"
    have e : x = Int.gcd a b := by rw [← hg, Nat.gcd_zero_right]
    rw [e]
    exact ⟨rfl, rfl⟩
def GG : Int := 10000000000000000000000000000000000000000000000000000000000000000000000000000000000000000000000000000000000000000000000000000000000000000000000000000000000000000000000000000000000000000000000000000000000000000000000000000000000000000000000000000000000000000000000000000000000000000000000000000000000000000000000000000000000000000000000000000000000000000000000000000000000000000000000000000000000000000000000000000000000000000000000000000000000000000000000000000000000000000000000000000000000000000000000000000000000000000000000000000000000000000000000000000000000000000000000000000000000000000000000000000000000000000000000000000000000000000000000000000000000000000000000000000000000000000000000000000000000000000000000000000000000000000000000000000000000000000000000000000000000000000000000000000000000000000000000000000000000000000000000000000000000000000000000000000000000000000000000000000000000000000000000000000000000000000000000000000000000000000000000000000000000000000000000000000000000000000
def smallB (i : Int) : Bool := decide (0 - GG ≤ i) && decide (i ≤ GG)
theorem is_small_spec (i : Int) (S : Sto) (hS : Sane S) : m_is_small [.int i] S = .ok (.bl (smallB i)) S := by
  refine m_defS hS rfl ?_
  show (b_is_small [some (.int i)] S).post _ _ _ _
  have hb : b_is_small = (sRet (rChain gLeU gLeU (rBin gSub (rC (.int 0)) (rC (.int GG))) (rVar 0) (rC (.int GG)))) := rfl
  rw [hb]
  unfold smallB
  generalize GG = g
  repeat walk_at "2"
  refine ⟨fun h1 => ?_, fun h1 => ?_⟩
  · repeat walk_at "2"
    refine ⟨?_, rfl⟩
    rw [h1, Bool.true_and]
  · refine ⟨?_, rfl⟩
    rw [h1, Bool.false_and]
theorem fraction_spec (a b : Int) (hb : 0 < b) (hl : b.natAbs < 2 ^ 8990) (S : Sto) (hS : Sane S) : m_fraction [.int a, .int b] S = .ok (toD ((a : Rat) / (b : Rat))) S := by
  obtain ⟨k, rfl⟩ : ∃ k : Nat, b = k := ⟨b.toNat, by omega⟩
  have hg : 0 < Int.gcd a k := Int.gcd_pos_of_ne_zero_right _ (by omega)
  have hgk : Int.gcd a k ≤ k := Nat.gcd_le_right (n := k) a.natAbs (by omega)
  have lg : ((Int.gcd a k : Nat) : Int).natAbs.log2 < 9000 := log_of (b := 8990) (by have : (k : Int).natAbs = k := rfl; omega) (by decide)
  have e := rat_of (a := a) (b := k) hb
  rw [toD_rat, e.1, e.2]
  refine m_defS hS rfl ?_
  show (b_fraction [some (.int a), some (.int k), none] S).post _ _ _ _
  unfold b_fraction
  walk_at "3"
  refine Res.post.of_eq (gcd_spec a k S hS) ?_
  walk_at "3"
  refine ⟨fun _ => ?_, fun z => absurd (of_decide_eq_false z) (by omega)⟩
  walk_at "3"
  refine o_mul (fits_r (by decide)) ?_
  rw [Int.mul_one]
  walk_at "3"
  refine o_div ⟨by omega, lg⟩ ?_
  walk_at "3"
  refine o_div ⟨by omega, lg⟩ ?_
  walk_at "3"
  exact ⟨rfl, rfl⟩
theorem plus_spec (x y : Rat) {B : Nat} (hx : RB' B x) (hy : RB' B y) (hB : B ≤ 2 ^ 4000) (S : Sto) (hS : Sane S) : m_plus [toD x, toD y] S = .ok (toD (x + y)) S := by
  refine m_defS hS (cl _ _) ?_
  show (b_plus [some (.tup [.int x.num, .int x.den]), some (.tup [.int y.num, .int y.den])] S).post _ _ _ _
  unfold b_plus
  have f : ∀ {a b : Int}, a.natAbs ≤ B → b.natAbs ≤ B → mulFits a b = true := fun h1 h2 => fits_of (a := 4001) (b := 4001) (by omega) (by omega) (by decide)
  have dx : ((x.den : Int)).natAbs ≤ B := hx.2
  have dy : ((y.den : Int)).natAbs ≤ B := hy.2
  walk_at "3"
  refine o_mul (f hx.1 dy) ?_
  walk_at "3"
  refine o_mul (f hy.1 dx) ?_
  walk_at "3"
  refine o_mul (f dx dy) ?_
  walk_at "3"
  refine Res.post.of_eq (fraction_spec _ _ (Int.mul_pos (den_pos' x) (den_pos' y)) ?_ S hS) ⟨by rw [rat_add], rfl⟩
  rw [Int.natAbs_mul]
  have := Nat.mul_le_mul (Nat.le_trans dx hB) (Nat.le_trans dy hB)
  exact Nat.lt_of_le_of_lt this (by rw [← Nat.pow_add]; exact Nat.pow_lt_pow_right (by decide) (by decide))
theorem times_spec (x y : Rat) {B : Nat} (hx : RB' B x) (hy : RB' B y) (hB : B ≤ 2 ^ 4000) (S : Sto) (hS : Sane S) : m_times [toD x, toD y] S = .ok (toD (x * y)) S := by
  refine m_defS hS (cl _ _) ?_
  show (b_times [some (.tup [.int x.num, .int x.den]), some (.tup [.int y.num, .int y.den])] S).post _ _ _ _
  unfold b_times
  have f : ∀ {a b : Int}, a.natAbs ≤ B → b.natAbs ≤ B → mulFits a b = true := fun h1 h2 => fits_of (a := 4001) (b := 4001) (by omega) (by omega) (by decide)
  have dx : ((x.den : Int)).natAbs ≤ B := hx.2
  have dy : ((y.den : Int)).natAbs ≤ B := hy.2
  walk_at "3"
  refine o_mul (f hx.1 hy.1) ?_
  walk_at "3"
  refine o_mul (f dx dy) ?_
  walk_at "3"
  refine Res.post.of_eq (fraction_spec _ _ (Int.mul_pos (den_pos' x) (den_pos' y)) ?_ S hS) ⟨by rw [rat_mul], rfl⟩
  rw [Int.natAbs_mul]
  have := Nat.mul_le_mul (Nat.le_trans dx hB) (Nat.le_trans dy hB)
  exact Nat.lt_of_le_of_lt this (by rw [← Nat.pow_add]; exact Nat.pow_lt_pow_right (by decide) (by decide))
theorem small_nat : (10 : Nat) ^ 1000 = GG.toNat := by decide +kernel
theorem smallB_of {i : Int} (h : i.natAbs ≤ 10 ^ 1000) : smallB i = true := by
  rw [small_nat] at h
  have g0 : 0 ≤ GG := by decide +kernel
  unfold smallB
  generalize GG = g at *
  rw [decide_eq_true (by omega), decide_eq_true (by omega)]
  rfl
theorem o_neRat {S : Sto} {q : Rat} {Q : D → Sto → Prop} (h : Q (.bl (!decide (q = 0))) S) : (Res.lift (gNe S (toD q) (.tup [.int 0, .int 1])) S).post Q :=
  o_neg_ (d := .tup [.int q.num, .int q.den]) (u := .tuple ([q.num, (q.den : Int)].map .int)) (v := .tuple ([0, 1].map .int)) rfl rfl (shaped_ints _).2 (shaped_ints _).2 (by
    have e : PyData.eqv (.tuple ([q.num, (q.den : Int)].map .int)) (.tuple ([0, 1].map .int)) = decide (q = 0) := by
      simp only [List.map_cons, List.map_nil, PyData.eqv, PyData.eqvAll, Bool.and_true]
      by_cases z : q = 0
      · subst z; rfl
      · rw [decide_eq_false z, num_beq, decide_eq_false z]; rfl
    rw [e]; exact h)
theorem all_true {α : Type} {xs : List α} {f : α → Bool} (h : ∀ a ∈ xs, f a = true) : (xs.map f).all id = true := List.all_eq_true.mpr fun b hb => by
  obtain ⟨a, ha, rfl⟩ := List.mem_map.mp hb
  exact h a ha
section
variable {κ : Type} [Emb κ] [DecidableEq κ] [KeyE κ]
theorem added_spec {S : Sto} {j : Nat} {u : D} {kvs : List (κ × Rat)} (hS : Sane S) (hd : IsDic u kvs) (hj : S[j]? = some u) (hl : kvs.length < sizeLine) (k : κ) (q : Rat) {B : Nat} (hB : B ≤ 2 ^ 4000) (hb : ∀ p ∈ kvs, RB' B p.2) (hq : RB' B q) :
    ∃ u', m_added [.ptr j, toD k, toD q] S = .ok .non (S.set j u') ∧ IsDic u' (addT kvs k q) := by
  obtain ⟨u', e', hu'⟩ := dic_putU hd hl k ((getT kvs k).getD 0 + q)
  refine ⟨u', ?_, hu'⟩
  have hlt := (List.getElem?_eq_some_iff.mp hj).1
  refine exact_of (m_def ?_)
  show (b_added [some (.ptr j), some (toD k), some (toD q)] S).post _ _ _ _
  unfold b_added
  walk_at "3"
  refine ⟨dic_isDct hd hj, ?_⟩
  walk_at "3"
  refine ⟨_, dic_lookU hd hj k, ?_⟩
  have ev : ((getT kvs k).map toD).getD (.tup [.int 0, .int 1]) = toD ((getT kvs k).getD 0) := by cases getT kvs k <;> rfl
  rw [ev]
  walk_at "3"
  refine Res.post.of_eq (plus_spec _ q ?_ hq hB S hS) ?_
  · cases e : getT kvs k with
    | none => exact ⟨Nat.zero_le _, by have := hq.2; have := q.den_pos; show 1 ≤ B; omega⟩
    | some w => exact hb _ (getT_mem e)
  walk_at "3"
  refine ⟨j, u, u', rfl, hj, e', ?_⟩
  have ln : (S.set j u').length = S.length := List.length_set
  have tk : (S.set j u').take S.length = S.set j u' := by rw [← ln, List.take_length]
  rw [tk]
  refine ⟨?_, rfl, rfl⟩
  have := sane_set hS (isDic_closed hu' S.length) (k := j)
  unfold Sane at this
  rwa [ln] at this
theorem added_adds : Adds κ m_added := fun hS hd hj hl k q _ hB hb hq => added_spec hS hd hj hl k q hB hb hq
variable [Sok (κ × Rat)]
/-- what may be told -/
structure Fine' (kvs : List (κ × Rat)) : Prop where
  len : kvs.length ≤ 1000
  rb : ∀ p ∈ kvs, RB' (10 ^ 1000) p.2
theorem pairs_of_spec {S : Sto} {j : Nat} {u : D} {kvs : List (κ × Rat)} (hS : Sane S) (hd : IsDic u kvs) (hj : S[j]? = some u) (hl : kvs.length ≤ sizeLine) (hf : Fine' (rowsT kvs)) : m_pairs_of [.ptr j] S = .ok (toD (rowsT kvs)) S := by
  have ln : (kvs.filter fz).length ≤ kvs.length := List.length_filter_le _ _
  have sl : 2000 ≤ sizeLine := by decide
  refine m_defJ hS (cl _ _) ?_
  show (b_pairs_of [some (.ptr j), none, none, none] S).post _ _ _ _
  unfold b_pairs_of
  refine s_seq ?_
  refine s_lockS hd hj rfl ?_
  walk_at "3"
  refine p_lcItems kvs fz toD hd hj rfl (Nat.le_of_ble_eq_true rfl) (Nat.le_of_ble_eq_true rfl) hl (fun p hp => ?_) (fun p hp _ => ?_) ?_
  · refine exact_of ?_
    dsimp only [in2, wipeD, List.set_cons_zero, List.set_cons_succ]
    walk_at "3"
    refine o_neRat ?_
    walk_at "3"
    exact ⟨rfl, rfl⟩
  · refine exact_of ?_
    dsimp only [in2, wipeD, List.set_cons_zero, List.set_cons_succ]
    walk_at "3"
    exact ⟨rfl, rfl⟩
  · walk_at "3"
    refine p_lift (a := .lst ((rowsT kvs).map toD)) (show Option.map D.lst (sortD _ ((kvs.filter fz).map toD)) = _ from by rw [sortD_emb _ _ (by omega)]; rfl) ?_
    walk_at "3"
    refine p_lift (show gTuple _ [.lst ((rowsT kvs).map toD)] = some (.tup ((rowsT kvs).map toD)) from rfl) ?_
    walk_at "3"
    refine ⟨rfl, ?_⟩
    walk_at "3"
    refine ⟨fun z => absurd (of_decide_eq_true z) (by rw [List.length_map]; have := hf.len; omega), fun _ => ?_⟩
    walk_at "3"
    refine p_lcRows (rowsT kvs) (fun p => smallB p.2.num && smallB p.2.den) D.bl (exact_of (p_seq (p_var rfl (.inr (.inl ⟨_, rfl, rfl, rfl⟩))))) (Nat.le_of_ble_eq_true rfl) (Nat.le_of_ble_eq_true rfl) (Nat.le_trans hf.len (by omega)) (fun p hp => ?_) ?_
    · refine exact_of ?_
      dsimp only [in2, wipeD, List.set_cons_zero, List.set_cons_succ]
      rw [toD_rat]
      walk_at "3"
      refine Res.post.of_eq (is_small_spec _ S hS) ⟨smallB p.2.num, rfl, fun z => ?_, fun z => ?_⟩
      · walk_at "3"
        refine Res.post.of_eq (is_small_spec _ S hS) ⟨by rw [z]; rfl, rfl⟩
      · exact ⟨by rw [z]; rfl, rfl⟩
    · walk_at "3"
      refine o_all ?_
      rw [all_true fun p hp => by
        have := hf.rb p hp
        rw [smallB_of this.1, smallB_of (i := (p.2.den : Int)) this.2]
        rfl]
      walk_at "3"
      exact ⟨rfl, List.take_length⟩
end
/-- forms that may be told -/
structure FineK (kvs : List (Kind × Rat)) : Prop where
  fine : Fine' kvs
  kinds : ∀ p ∈ kvs, p.1.p ≤ 99 ∧ p.1.b.natAbs ≤ 10 ^ 1000
end DL

set_option Elab.async false
set_option linter.all false
set_option maxRecDepth 100000
set_option maxHeartbeats 4000000
set_option autoImplicit false
/-! What is shown. -/
namespace DL
open PySem L2
open Emb
local macro_rules | `(tactic| walk_at "1") => `(tactic| with_reducible first
  | refine s_seq ?_ | refine s_asg ?_ | refine s_ret ?_ | refine s_if ?_ | refine s_expr ?_ | refine s_next ?_ | refine s_brk ?_ | refine s_cont ?_ | refine s_for ?_ | refine s_while ?_
  | refine p_c ?_ | refine p_bin ?_ | refine p_as ?_ | refine p_cons ?_ | refine p_nil ?_ | refine p_un ?_ | refine p_call ?_ | refine p_if ?_ | refine p_own ?_
  | refine p_keep ?_ | refine p_tru ?_ | refine p_and ?_ | refine p_or ?_ | refine p_not ?_ | refine p_val ?_ | refine p_rand ?_ | refine p_ror ?_ | refine p_rnot ?_ | refine p_chain ?_ | refine p_bif ?_
  | refine o_add ?_ | refine o_sub ?_ | refine o_ltU ?_ | refine o_leU ?_ | refine o_gtU ?_ | refine o_geU ?_ | refine o_neg ?_ | refine o_eqI ?_ | refine o_neI ?_ | refine o_abs ?_ | refine o_tru ?_ | refine p_true ?_ | refine p_false ?_
  | refine o_lenT ?_ | refine o_lenL ?_ | refine o_ix0 ?_ | refine o_ix1 ?_ | refine o_ix2 ?_ | refine o_ix0L ?_ | refine o_ix1L ?_ | refine o_ix2L ?_
  | refine s_par ?_ | refine p_yes ?_ | refine p_seq ?_ | refine s_gnil ?_ | refine s_gcons ?_ | refine s_gtux ?_ | refine s_gtupl ?_ | refine p_onone ?_ | refine p_osome ?_ | refine p_get2 ?_ | refine s_putU ?_ | refine p_sortIt ?_)
local macro_rules | `(tactic| walk_at "2") => `(tactic| first
  | walk_at "1"
  | (with_reducible refine p_var2 ?_)
  | ((with_reducible refine s_name ?_ ?_); (· exact Nat.le_of_ble_eq_true rfl); dsimp only [List.set_cons_zero, List.set_cons_succ])
  | (with_reducible refine p_tup ?_) | (with_reducible refine p_lst ?_) | ((with_reducible refine ⟨?_, ?_⟩); (· exact Nat.le_of_ble_eq_true rfl))
  | ((with_reducible refine p_ex2 (x := ?_) (y := ?_) ?_ ?_); rotate_left; rotate_left; (· rfl); refine ⟨?_, ?_, ?_⟩; (· exact Nat.le_of_ble_eq_true rfl); (· exact Nat.le_of_ble_eq_true rfl); dsimp only [List.set_cons_zero, List.set_cons_succ])
  | ((with_reducible refine p_isT ?_ ?_); (· rfl)) | ((with_reducible refine p_isF ?_ ?_); (· rfl))
  | ((with_reducible refine p_ex (x := ?_) ?_ ?_); rotate_left; (· rfl)))
local macro_rules | `(tactic| walk_at "3") => `(tactic| repeat walk_at "2")
mutual
theorem fit_lay : ∀ {x : PyData}, fitP x = true → x.canLay0 = true
  | .none, _ => by simp [PyData.canLay0]
  | .bool _, _ => by simp [PyData.canLay0]
  | .int _, _ => by simp [PyData.canLay0]
  | .str _, h => by unfold fitP at h; simp [PyData.canLay0, h]
  | .list xs, h => by unfold fitP at h; simp only [PyData.canLay0]; exact fits_lay h
  | .tuple xs, h => by unfold fitP at h; simp only [PyData.canLay0]; exact fits_lay h
  | .dict _, h => by unfold fitP at h; cases h
theorem fits_lay : ∀ {xs : List PyData}, fitPs xs = true → PyData.canLayAll0 xs = true
  | [], _ => by simp [PyData.canLayAll0]
  | x :: r, h => by
    unfold fitPs at h
    rw [Bool.and_eq_true] at h
    simp only [PyData.canLayAll0, fit_lay h.1, fits_lay h.2, Bool.and_self]
end
theorem fit_shaped {x : PyData} (h : fitP x = true) (hd : x.depth ≤ 64) : SeqAt.shaped x = true := by
  unfold SeqAt.shaped
  rw [fit_lay h, decide_eq_true hd]
  rfl
/-! ### what is shown -/
structure Shw (d : D) (t : Str) : Prop where
  rep : ∀ S : Sto, gReprW S [d] = some (.str t)
  ok : PyData.strOk t = true
theorem o_shw {S : Sto} {d : D} {t : Str} {Q : D → Sto → Prop} (h : Shw d t) (q : Q (.str t) S) : (Res.lift (gReprW S [d]) S).post Q := p_lift (h.rep S) q
theorem o_neSame {S : Sto} {d : D} {t : Str} {Q : D → Sto → Prop} (h : Shw d t) (q : Q (.bl false) S) : (Res.lift (gNe S (.str t) (.str t)) S).post Q := o_neS h.ok h.ok (by rw [beq_self_eq_true]; exact q)
theorem o_eqSame {S : Sto} {d : D} {t : Str} {Q : D → Sto → Prop} (h : Shw d t) (q : Q (.bl true) S) : (Res.lift (gEq S (.str t) (.str t)) S).post Q := o_eqS h.ok h.ok (by rw [beq_self_eq_true]; exact q)
def FitE {κ : Type} [Emb κ] (w : Nat) (x : κ) : Prop := fitP (py x) = true ∧ wtP (py x) ≤ w
theorem shw_emb {κ : Type} [Emb κ] {w : Nat} {x : κ} (h : FitE w x) (hw : w ≤ sizeLine) (hd : deg κ ≤ 64) : Shw (toD x) (py x).shown := by
  obtain ⟨g1, g2, g3⟩ := shown_fit h.1
  refine ⟨fun S => ?_, okS_ok g1⟩
  have h2 := h.2
  unfold gReprW
  dsimp only
  rw [deref_emb, pyOk]
  dsimp only
  rw [g3, decide_eq_true (Nat.le_trans (dep x) hd), decide_eq_true (show (py x).shown.length ≤ sizeLine by omega)]
  rfl
theorem shw_non : Shw .non (PyData.none).shown := ⟨fun S => by
  obtain ⟨g1, g2, g3⟩ := shown_fit (d := .none) rfl
  unfold gReprW
  show (if (showW .none && decide ((PyData.none).depth ≤ 64) && decide ((PyData.none).shown.length ≤ sizeLine)) = true then some (D.str (PyData.none).shown) else none) = _
  rw [g3, decide_eq_true (by decide), decide_eq_true (Nat.le_trans g2 (by decide))]
  rfl, okS_ok (shown_fit (d := .none) rfl).1⟩
theorem fitE_le {κ : Type} [Emb κ] {v w : Nat} {x : κ} (h : FitE v x) (hv : v ≤ w) : FitE w x := ⟨h.1, Nat.le_trans h.2 hv⟩
theorem fitE_int {i : Int} (h : i.natAbs ≤ 10 ^ 1000) : FitE 1006 i := by
  refine ⟨?_, ?_⟩
  · show fitP (.int i) = true
    unfold fitP
    exact decide_eq_true (Nat.lt_of_le_of_lt h (Nat.pow_lt_pow_right (by decide) (by decide)))
  · show wtP (.int i) ≤ 1006
    unfold wtP
    exact Nat.le_refl _
theorem fitE_small {i : Int} {B : Nat} (h : i.natAbs ≤ B) (hB : B ≤ 10 ^ 100) : FitE 1006 i := fitE_int (Nat.le_trans h (Nat.le_trans hB (Nat.pow_le_pow_right (by decide) (by decide))))
theorem fitE_str {x : Str} (h : nice x = true) : FitE 82 x := by
  unfold nice at h
  have h := (Bool.and_eq_true_iff.mp h).1
  rw [Bool.and_eq_true, decide_eq_true_eq, List.all_eq_true] at h
  refine ⟨?_, ?_⟩
  · show fitP (.str x) = true
    unfold fitP
    exact okS_ok fun c hc => by have := of_decide_eq_true (h.2 c hc); omega
  · show wtP (.str x) ≤ 82
    unfold wtP
    omega
theorem fitE_pair {α β : Type} [Emb α] [Emb β] {a b : Nat} {p : α × β} (h1 : FitE a p.1) (h2 : FitE b p.2) : FitE (a + b + 7) p := by
  refine ⟨?_, ?_⟩
  · show fitP (.tuple [py p.1, py p.2]) = true
    unfold fitP fitPs fitPs fitPs
    rw [h1.1, h2.1]; rfl
  · show wtP (.tuple [py p.1, py p.2]) ≤ _
    unfold wtP wtPs wtPs wtPs
    have := h1.2
    have := h2.2
    omega
theorem fitE_list {α : Type} [Emb α] {w : Nat} : ∀ {xs : List α}, (∀ x ∈ xs, FitE w x) → fitPs (xs.map py) = true ∧ wtPs (xs.map py) ≤ xs.length * (w + 2)
  | [], _ => ⟨by unfold List.map fitPs; rfl, by unfold List.map wtPs; simp⟩
  | x :: r, h => by
    obtain ⟨h1, h2⟩ := fitE_list fun y hy => h y (List.mem_cons_of_mem _ hy)
    have hx := h x List.mem_cons_self
    unfold List.map fitPs wtPs
    rw [hx.1, h1, List.length_cons, Nat.succ_mul]
    refine ⟨rfl, ?_⟩
    have := hx.2
    omega
theorem fitE_tuple {α : Type} [Emb α] {w n : Nat} {xs : List α} (h : ∀ x ∈ xs, FitE w x) (hn : xs.length ≤ n) : FitE (n * (w + 2) + 3) xs := by
  obtain ⟨h1, h2⟩ := fitE_list h
  refine ⟨?_, ?_⟩
  · show fitP (.tuple (xs.map py)) = true
    unfold fitP; exact h1
  · show wtP (.tuple (xs.map py)) ≤ _
    unfold wtP
    have := Nat.mul_le_mul_right (w + 2) hn
    omega
theorem fitE_rat {q : Rat} (h : RB' (10 ^ 1000) q) : FitE 2019 q := by
  have h1 := fitE_int h.1
  have h2 := fitE_int (i := (q.den : Int)) h.2
  exact fitE_pair (p := (q.num, (q.den : Int))) h1 h2
theorem mono_len {n : Nat} {m : Mono} (h : MonO n m) : m.length ≤ n ∧ ∀ p ∈ m, p.2.natAbs ≤ n := by
  obtain ⟨h1, h2⟩ := deg_pos h.nc
  have := h.dg
  refine ⟨by omega, fun p hp => ?_⟩
  have := h2 p hp
  have := (h.nc p hp).2
  omega
theorem fitE_mono {n : Nat} {m : Mono} (h : MonO n m) (hn : n ≤ 12) : FitE 13200 m := by
  obtain ⟨h1, h2⟩ := mono_len h
  refine fitE_le (fitE_tuple (w := 82 + 1006 + 7) (n := 12) (fun p hp => fitE_pair (fitE_str (h.nc p hp).1) (fitE_small (h2 p hp) (Nat.le_trans hn (by decide)))) (by omega)) (by decide)
theorem fitE_kind {n : Nat} {k : Kind} (h : MonO n k.m) (hp : k.p.natAbs ≤ 10 ^ 1000) (hb : k.b.natAbs ≤ 10 ^ 1000) (hn : n ≤ 12) : FitE 15300 k := by
  have h1 := fitE_mono h hn
  have h2 := fitE_int hp
  have h3 := fitE_int hb
  refine ⟨?_, ?_⟩
  · show fitP (.tuple [py k.m, .int k.p, .int k.b]) = true
    unfold fitP fitPs fitPs fitPs fitPs
    rw [h1.1, show fitP (.int k.p) = true from h2.1, show fitP (.int k.b) = true from h3.1]; rfl
  · show wtP (.tuple [py k.m, .int k.p, .int k.b]) ≤ _
    unfold wtP wtPs wtPs wtPs wtPs
    have := h1.2
    have : wtP (.int k.p) ≤ 1006 := h2.2
    have : wtP (.int k.b) ≤ 1006 := h3.2
    omega
theorem big_le {n : Nat} (h : n ≤ 10 ^ 100) : n ≤ 10 ^ 1000 := Nat.le_trans h (Nat.pow_le_pow_right (by decide) (by decide))
/-! equality of what is shown -/
theorem eqv_fit {κ : Type} [Emb κ] [DecidableEq κ] {a b : κ} (h : fitP (py a) = true) : PyData.eqv (py a) (py b) = decide (a = b) := by
  by_cases e : a = b
  · subst e; rw [eqv_refl _ h, decide_eq_true rfl]
  · rw [decide_eq_false e]
    cases q : PyData.eqv (py a) (py b) with
    | false => rfl
    | true => exact absurd (inj _ _ q) e
theorem eqvs_fit {κ : Type} [Emb κ] [DecidableEq κ] {a b : List κ} (h : fitPs (a.map py) = true) : PyData.eqvAll (a.map py) (b.map py) = decide (a = b) := by
  by_cases e : a = b
  · subst e; rw [eqvs_refl _ h, decide_eq_true rfl]
  · rw [decide_eq_false e]
    cases q : PyData.eqvAll (a.map py) (b.map py) with
    | false => rfl
    | true => exact absurd (emb_injs _ _ q) e
theorem o_eqEmb {κ : Type} [Emb κ] [DecidableEq κ] {S : Sto} {a b : κ} {Q : D → Sto → Prop} (ha : fitP (py a) = true) (hb : fitP (py b) = true) (hd : deg κ ≤ 64) (h : Q (.bl (decide (a = b))) S) : (Res.lift (gEq S (toD a) (toD b)) S).post Q :=
  o_eqg (by rw [deref_emb, pyOk]) (by rw [deref_emb, pyOk]) (fit_shaped ha (Nat.le_trans (dep a) hd)) (fit_shaped hb (Nat.le_trans (dep b) hd)) (by rw [eqv_fit ha]; exact h)
theorem o_neEmb {κ : Type} [Emb κ] [DecidableEq κ] {S : Sto} {a b : κ} {Q : D → Sto → Prop} (ha : fitP (py a) = true) (hb : fitP (py b) = true) (hd : deg κ ≤ 64) (h : Q (.bl (!decide (a = b))) S) : (Res.lift (gNe S (toD a) (toD b)) S).post Q :=
  o_neg_ (by rw [deref_emb, pyOk]) (by rw [deref_emb, pyOk]) (fit_shaped ha (Nat.le_trans (dep a) hd)) (fit_shaped hb (Nat.le_trans (dep b) hd)) (by rw [eqv_fit ha]; exact h)
theorem lst_shaped {κ : Type} [Emb κ] {a : List κ} (ha : fitPs (a.map py) = true) (hd : deg κ + 1 ≤ 64) : SeqAt.shaped (.list (a.map py)) = true :=
  fit_shaped (by unfold fitP; exact ha) (by have := emb_dep a; simp only [PyData.depth]; omega)
theorem o_eqLst {κ : Type} [Emb κ] [DecidableEq κ] {S : Sto} {a b : List κ} {Q : D → Sto → Prop} (ha : fitPs (a.map py) = true) (hb : fitPs (b.map py) = true) (hd : deg κ + 1 ≤ 64) (h : Q (.bl (decide (a = b))) S) : (Res.lift (gEq S (.lst (a.map toD)) (.lst (b.map toD))) S).post Q :=
  o_eqg (u := .list (a.map py)) (v := .list (b.map py)) (by show (toPys S (a.map toD)).map PyData.list = _; rw [emb_pys]; rfl) (by show (toPys S (b.map toD)).map PyData.list = _; rw [emb_pys]; rfl) (lst_shaped ha hd) (lst_shaped hb hd) (by simp only [PyData.eqv]; rw [eqvs_fit ha]; exact h)
theorem o_neLst {κ : Type} [Emb κ] [DecidableEq κ] {S : Sto} {a b : List κ} {Q : D → Sto → Prop} (ha : fitPs (a.map py) = true) (hb : fitPs (b.map py) = true) (hd : deg κ + 1 ≤ 64) (h : Q (.bl (!decide (a = b))) S) : (Res.lift (gNe S (.lst (a.map toD)) (.lst (b.map toD))) S).post Q :=
  o_neg_ (u := .list (a.map py)) (v := .list (b.map py)) (by show (toPys S (a.map toD)).map PyData.list = _; rw [emb_pys]; rfl) (by show (toPys S (b.map toD)).map PyData.list = _; rw [emb_pys]; rfl) (lst_shaped ha hd) (lst_shaped hb hd) (by simp only [PyData.eqv]; rw [eqvs_fit ha]; exact h)
/-- a comprehension over rows of pairs, with a test -/
theorem p_lcRowsF {κ ν β : Type} [Emb κ] [Emb ν] (rows : List (κ × ν)) (f : κ × ν → Option β) (tb : β → D) {a b : Nat} {it : RA} {t : RB} {e : RE} {δ : Sl} {S : Sto} {Q : D → Sto → Prop} (hi : it δ S = .ok (rows.map toD) S) (ha : a < δ.length) (hb : b < δ.length) (hl : rows.length ≤ sizeLine)
    (he : ∀ p ∈ rows, (f p = none ∧ t (in2 δ a b (toD p.1) (toD p.2)) S = .ok false S) ∨ ∃ y, f p = some y ∧ t (in2 δ a b (toD p.1) (toD p.2)) S = .ok true S ∧ e (in2 δ a b (toD p.1) (toD p.2)) S = .ok (tb y) S) (h : Q (.lst ((rows.filterMap f).map tb)) S) : (rLc it (gTup (gCons (gName a) (gCons (gName b) gNil))) [a, b] t e δ S).post Q := by
  refine p_lc ?_
  refine Res.post.of_eq hi ?_
  have hf : (rows.filterMap f).length ≤ rows.length := List.length_filterMap_le _ _
  refine Res.post.of_eq (lcT toD tb f fun p hp => ⟨_, g2 ha hb D.tup (.inl rfl), he p hp⟩) ⟨by rw [List.length_map]; omega, h⟩
end DL

set_option Elab.async false
set_option linter.all false
set_option maxRecDepth 100000
set_option maxHeartbeats 4000000
set_option autoImplicit false
/-! The start of the draws. -/
namespace DL
open PySem L2
open Emb
local macro_rules | `(tactic| walk_at "1") => `(tactic| with_reducible first
  | refine s_seq ?_ | refine s_asg ?_ | refine s_ret ?_ | refine s_if ?_ | refine s_expr ?_ | refine s_next ?_ | refine s_brk ?_ | refine s_cont ?_ | refine s_for ?_ | refine s_while ?_
  | refine p_c ?_ | refine p_bin ?_ | refine p_as ?_ | refine p_cons ?_ | refine p_nil ?_ | refine p_un ?_ | refine p_call ?_ | refine p_if ?_ | refine p_own ?_
  | refine p_keep ?_ | refine p_tru ?_ | refine p_and ?_ | refine p_or ?_ | refine p_not ?_ | refine p_val ?_ | refine p_rand ?_ | refine p_ror ?_ | refine p_rnot ?_ | refine p_chain ?_ | refine p_bif ?_
  | refine o_add ?_ | refine o_sub ?_ | refine o_ltU ?_ | refine o_leU ?_ | refine o_gtU ?_ | refine o_geU ?_ | refine o_neg ?_ | refine o_eqI ?_ | refine o_neI ?_ | refine o_abs ?_ | refine o_tru ?_ | refine p_true ?_ | refine p_false ?_
  | refine o_lenT ?_ | refine o_lenL ?_
  | refine s_par ?_ | refine p_yes ?_ | refine p_lc ?_ | refine p_seq ?_ | refine s_gnil ?_ | refine s_gcons ?_ | refine s_gtux ?_ | refine p_onone ?_ | refine p_osome ?_)
local macro_rules | `(tactic| walk_at "2") => `(tactic| first
  | walk_at "1"
  | (with_reducible refine p_var2 ?_)
  | ((with_reducible refine s_name ?_ ?_); (· exact Nat.le_of_ble_eq_true rfl); dsimp only [List.set_cons_zero, List.set_cons_succ])
  | (with_reducible refine p_tup ?_) | ((with_reducible refine ⟨?_, ?_⟩); (· exact Nat.le_of_ble_eq_true rfl))
  | ((with_reducible refine p_ex2 (x := ?_) (y := ?_) ?_ ?_); rotate_left; rotate_left; (· rfl); refine ⟨?_, ?_, ?_⟩; (· exact Nat.le_of_ble_eq_true rfl); (· exact Nat.le_of_ble_eq_true rfl); dsimp only [List.set_cons_zero, List.set_cons_succ])
  | ((with_reducible refine p_isT ?_ ?_); (· rfl)) | ((with_reducible refine p_isF ?_ ?_); (· rfl))
  | ((with_reducible refine p_ex (x := ?_) ?_ ?_); rotate_left; (· rfl)))
local macro_rules | `(tactic| walk_at "3") => `(tactic| repeat (first | walk_at "2" | (with_reducible refine p_lst ?_)))
def greatOf (i : Int) : Int := if (10 : Int) ^ 18 ≤ i then 1 else 0
def restF (d : D) : Option D := match d with
  | .int i => some (.int (i * greatOf i))
  | _ => none
theorem rest_map : ∀ ns : List Int, (ns.map D.int).filterMap restF = (ns.map fun i => i * greatOf i).map .int
  | [] => rfl
  | i :: r => by
    have := rest_map r
    show D.int (i * greatOf i) :: (r.map D.int).filterMap restF = _
    rw [this]
    rfl
theorem great_fits (i : Int) : mulFits i (greatOf i) = true := by
  refine fits_r ?_
  unfold greatOf
  split <;> decide
theorem pairs3 {X : RE} {d : D} {R : Sto} (h : X [some d, none] [] = .ok (.ptr 0) R) : rPairs [((rC (.str "script")), (rVar 0)), ((rC (.str "at")), (rC (.int 0))), ((rC (.str "rest")), X)] [some d, none] [] = .ok [(.str "script", d), (.str "at", .int 0), (.str "rest", .ptr 0)] R := by
  unfold rPairs rPairs rPairs rPairs
  simp [rC, rVar, Res.bind, h]
theorem started_spec (ns : List Int) (hn : ns.length ≤ 63) : ∃ rs : List Int, rs.length = ns.length ∧ m__law_started [.lst (ns.map .int)] [] = .ok (.ptr 1) [.lst (rs.map .int), stD ns 0] := by
  refine ⟨ns.map fun i => i * greatOf i, by rw [List.length_map], ?_⟩
  have sl : 2000 ≤ sizeLine := by decide
  have key : (b__law_started [some (.lst (ns.map .int)), none] []).post NoS (fun z S1 => z = .ptr 1 ∧ S1 = [.lst ((ns.map fun i => i * greatOf i).map .int), stD ns 0]) NoS NoS := by
    unfold b__law_started
    refine s_ret ?_
    refine p_own ?_
    refine p_disp ?_
    have hl : rLc (rSeq (rVar 0)) (gName 1) [1] bYes (rBin gMul (rVar 1) (rAs gInt (rCons (rBin gGeU (rVar 1) (rBin gPow (rC (.int 10)) (rC (.int 18)))) rNil))) [some (.lst (ns.map .int)), none] [] = .ok (.lst ((ns.map fun i => i * greatOf i).map .int)) [] := by
      refine exact_of ?_
      refine p_lc ?_
      refine p_seq ?_
      with_reducible refine p_var2 ?_
      refine ⟨_, rfl, ?_⟩
      refine .inl ⟨_, rfl, ?_⟩
      dsimp only [wipeD, List.set_cons_zero, List.set_cons_succ]
      refine Res.post.of_eq (lcL_gen (f := restF) fun x hx => ?_) ⟨?_, ?_⟩
      · obtain ⟨i, _, rfl⟩ := List.mem_map.mp hx
        refine ⟨_, rfl, .inr ⟨_, rfl, rfl, ?_⟩⟩
        refine exact_of ?_
        walk_at "3"
        refine pow6 (δ := []) (n := 18) (by decide) ?_
        walk_at "3"
        refine p_lift (a := .int (greatOf i)) ?_ ?_
        · show gInt [] [.bl (decide ((10 : Int) ^ 18 ≤ i))] = _
          unfold greatOf
          by_cases h : (10 : Int) ^ 18 ≤ i
          · rw [if_pos h, decide_eq_true h]; rfl
          · rw [if_neg h, decide_eq_false h]; rfl
        · refine o_mul (great_fits i) ?_
          exact ⟨rfl, rfl⟩
      · rw [rest_map, List.length_map, List.length_map]; omega
      · rw [rest_map]
        exact ⟨rfl, rfl⟩
    have ho : rOwn (rLc (rSeq (rVar 0)) (gName 1) [1] bYes (rBin gMul (rVar 1) (rAs gInt (rCons (rBin gGeU (rVar 1) (rBin gPow (rC (.int 10)) (rC (.int 18)))) rNil)))) [some (.lst (ns.map .int)), none] [] = .ok (.ptr 0) [.lst ((ns.map fun i => i * greatOf i).map .int)] := by
      refine exact_of ?_
      refine p_own ?_
      refine Res.post.of_eq hl ?_
      exact ⟨rfl, rfl⟩
    have hp : rPairs [((rC (.str "script")), (rVar 0)), ((rC (.str "at")), (rC (.int 0))), ((rC (.str "rest")), (rOwn (rLc (rSeq (rVar 0)) (gName 1) [1] bYes (rBin gMul (rVar 1) (rAs gInt (rCons (rBin gGeU (rVar 1) (rBin gPow (rC (.int 10)) (rC (.int 18)))) rNil))))))] [some (.lst (ns.map .int)), none] [] = .ok [(.str "script", .lst (ns.map .int)), (.str "at", .int 0), (.str "rest", .ptr 0)] [.lst ((ns.map fun i => i * greatOf i).map .int)] := by
      exact pairs3 ho
    refine Res.post.of_eq hp ⟨rfl, ?_⟩
    refine ⟨rfl, ?_⟩
    show [_, _] = [_, _]
    rfl
  show mDefK 2 b__law_started [.lst (ns.map .int)] [] = _
  unfold mDefK
  show (match b__law_started [some (.lst (ns.map .int)), none] [] with
    | .rt d S1 => Res.ok d S1
    | .nx _ S1 => .ok .non S1
    | .err c fs _ S1 => .err c fs S1
    | _ => .stuck) = _
  cases q : b__law_started [some (.lst (ns.map .int)), none] [] with
  | rt d S1 =>
    rw [q] at key
    obtain ⟨rfl, rfl⟩ : d = .ptr 1 ∧ S1 = _ := key
    rfl
  | _ => rw [q] at key; exact key.elim
end DL

set_option Elab.async false
set_option linter.all false
set_option maxRecDepth 100000
set_option maxHeartbeats 4000000
set_option autoImplicit false
/-! What is shown of rows. -/
namespace DL
open PySem L2
open Emb
theorem merge_all {κ ν : Type} [DecidableEq κ] {P : κ × ν → Prop} : ∀ {b a : List (κ × ν)}, (∀ p ∈ a, P p) → (∀ p ∈ b, P p) → ∀ p ∈ mergeT a b, P p
  | [], _, h, _ => h
  | q :: r, a, h, g => merge_all (b := r) (a := putT a q.1 q.2) (put_all h (g q List.mem_cons_self)) fun p hp => g p (List.mem_cons_of_mem _ hp)
theorem merge_len {κ ν : Type} [DecidableEq κ] : ∀ (b a : List (κ × ν)), (mergeT a b).length ≤ a.length + b.length
  | [], a => Nat.le_refl _
  | p :: r, a => by
    have h1 := merge_len r (putT a p.1 p.2)
    have h2 := put_len a p.1 p.2
    show (mergeT (putT a p.1 p.2) r).length ≤ _
    rw [List.length_cons]
    omega
theorem b21 {q : Rat} (h : RB' (10 ^ 21) q) : RB' (10 ^ 30) q := rb_mono h (by decide)
theorem b1000 {q : Rat} {B : Nat} (h : RB' B q) (hB : B ≤ 10 ^ 100) : RB' (10 ^ 1000) q := rb_mono h (big_le hB)
theorem shw_rowsM {rows : List (Mono × Rat)} (hm : ∀ p ∈ rows, MonO 12 p.1) (hr : ∀ p ∈ rows, RB' (10 ^ 1000) p.2) (hl : rows.length ≤ 100) : Shw (toD rows) (py rows).shown :=
  shw_emb (fitE_tuple (n := 100) (fun p hp => fitE_pair (fitE_mono (hm p hp) (Nat.le_refl _)) (fitE_rat (hr p hp))) hl) (by decide) (by decide)
theorem shw_rowsK {rows : List (Kind × Rat)} (hm : ∀ p ∈ rows, MonO 12 p.1.m ∧ p.1.p.natAbs ≤ 10 ^ 100 ∧ p.1.b.natAbs ≤ 10 ^ 100) (hr : ∀ p ∈ rows, RB' (10 ^ 1000) p.2) (hl : rows.length ≤ 100) : Shw (toD rows) (py rows).shown :=
  shw_emb (fitE_tuple (n := 100) (fun p hp => fitE_pair (fitE_kind (hm p hp).1 (big_le (hm p hp).2.1) (big_le (hm p hp).2.2) (Nat.le_refl _)) (fitE_rat (hr p hp))) hl) (by decide) (by decide)
theorem shw_rowsI {rows : List (Mono × Int)} (hm : ∀ p ∈ rows, MonO 12 p.1) (hr : ∀ p ∈ rows, p.2.natAbs ≤ 10 ^ 100) (hl : rows.length ≤ 100) : Shw (toD rows) (py rows).shown :=
  shw_emb (fitE_tuple (n := 100) (fun p hp => fitE_pair (fitE_mono (hm p hp) (Nat.le_refl _)) (fitE_int (big_le (hr p hp)))) hl) (by decide) (by decide)
theorem mono12 {m : Mono} {n : Nat} (h : MonO n m) (hn : n ≤ 12) : MonO 12 m := ⟨h.inc, h.nc, by have := h.dg; omega⟩
theorem e1000 : (10 : Nat) ^ 50 ≤ 10 ^ 1000 := Nat.pow_le_pow_right (by decide) (by decide)
theorem e100 {n : Nat} (h : n ≤ 10 ^ 50) : n ≤ 10 ^ 100 := Nat.le_trans h (by decide)
theorem kindG_ok {k : Kind} (h : KindG 4 k) : MonO 12 k.m ∧ k.p.natAbs ≤ 10 ^ 100 ∧ k.b.natAbs ≤ 10 ^ 100 := by
  have := h.p0
  have := h.p1
  exact ⟨mono12 h.m (by decide), e100 (show k.p.natAbs ≤ 10 ^ 50 by omega), e100 (Nat.le_trans h.b (by decide))⟩
theorem kindG_fine {k : Kind} (h : KindG 4 k) : k.p ≤ 99 ∧ k.b.natAbs ≤ 10 ^ 1000 := by
  have := h.p1
  exact ⟨by omega, Nat.le_trans h.b (Nat.pow_le_pow_right (by decide) (by decide))⟩
end DL

set_option Elab.async false
set_option linter.all false
set_option maxRecDepth 100000
set_option maxHeartbeats 4000000
set_option autoImplicit false
/-! Plain tools for dicts of texts and numbers: update, sorted, unlike; wider numbers shown. -/
namespace DL
open PySem L2
open Emb
theorem isDic_str {ν : Type} [Emb ν] {u : D} {kvs : List (Str × ν)} (h : IsDic u kvs) : u = .dct (kvD kvs) := by
  rcases h with ⟨rfl, rfl⟩ | ⟨_, rfl⟩ | ⟨hp, _⟩
  · rfl
  · rfl
  · cases hp
theorem p_upd {a e : RE} {δ : Sl} {S : Sto} {Q : D → Sto → Prop} (h : (a δ S).post fun x S1 => ∃ n kv0, x = .ptr n ∧ S1[n]? = some (.dct kv0) ∧ (e δ S1).post fun y S2 => ∃ m kvs more, y = .ptr m ∧ n ≠ m ∧ S2[n]? = some (.dct kvs) ∧ S2[m]? = some (.dct more) ∧ kvs.length + more.length ≤ sizeLine ∧ Q .non (S2.set n (.dct (mergeD kvs more)))) : (rUpd a e δ S).post Q :=
  p_bind (h.mono fun x S1 ⟨n, kv0, e1, e2, q⟩ => by
    subst e1
    dsimp only
    rw [e2]
    dsimp only
    refine p_bind (q.mono fun y S2 ⟨m, kvs, more, e3, hne, e4, e5, hl, q2⟩ => ?_)
    subst e3
    unfold updD
    dsimp only
    rw [if_neg hne, e4, e5]
    dsimp only
    rw [if_pos hl]
    exact q2)
theorem strKeys_kv {ν : Type} [Emb ν] : ∀ kvs : List (Str × ν), strKeys (kvD kvs) = some (kvs.map (·.1))
  | [] => rfl
  | p :: r => by
    show (strKeys (kvD r)).map (p.1 :: ·) = _
    rw [strKeys_kv r]
    rfl
theorem o_sortKeys {ν : Type} [Emb ν] {S : Sto} {j : Nat} {kvs : List (Str × ν)} {Q : D → Sto → Prop} (hj : S[j]? = some (.dct (kvD kvs))) (hl : kvs.length < 64) (h : Q (.lst ((sortT (kvs.map (·.1))).map .str)) S) : (Res.lift (gSortKeys S [.ptr j]) S).post Q := p_lift (by
  unfold gSortKeys
  dsimp only
  have hd : deref S (.ptr j) = .dct (kvD kvs) := by
    unfold deref
    dsimp only
    rw [show S.getD j .non = .dct (kvD kvs) by rw [List.getD_eq_getElem?_getD, hj]; rfl]
  rw [hd]
  dsimp only
  rw [strKeys_kv]
  dsimp only
  rw [List.length_map, if_pos hl]) h
theorem eqPart_all {mvs : List (Str × Int)} : ∀ {kvs : List (Str × Int)}, (∀ p ∈ kvs, getT mvs p.1 = some p.2) → eqPart (kvD mvs) (kvD kvs) = some true
  | [], _ => rfl
  | p :: r, h => by
    have ih := eqPart_all (mvs := mvs) (kvs := r) fun q hq => h q (List.mem_cons_of_mem _ hq)
    show eqPart (kvD mvs) ((.str p.1, .int p.2) :: kvD r) = _
    unfold eqPart
    rw [show lookD (kvD mvs) (.str p.1) = _ from lookD_kv rfl mvs p.1, h p List.mem_cons_self]
    show (eqPart (kvD mvs) (kvD r)).map (fun b => decide (p.2 = p.2) && b) = _
    rw [ih, decide_eq_true rfl]
    rfl
theorem o_neSelf {S : Sto} {i j : Nat} {kvs : List (Str × Int)} {Q : D → Sto → Prop} (hn : ND kvs) (hi : S[i]? = some (.dct (kvD kvs))) (hj : S[j]? = some (.dct (kvD kvs))) (h : Q (.bl false) S) : (Res.lift (gNeD S (.ptr i) (.ptr j)) S).post Q := p_lift (by
  have hd : ∀ {k}, S[k]? = some (.dct (kvD kvs)) → deref S (.ptr k) = .dct (kvD kvs) := fun {k} hk => by
    unfold deref
    dsimp only
    rw [show S.getD k .non = .dct (kvD kvs) by rw [List.getD_eq_getElem?_getD, hk]; rfl]
  unfold gNeD
  rw [hd hi, hd hj]
  dsimp only
  rw [eqPart_all fun p hp => mem_getT hn hp]
  show some (D.bl (!((kvD kvs).length == (kvD kvs).length && true))) = _
  rw [beq_self_eq_true]
  rfl) h
/-- fractions of numbers up to four thousand figures are shown -/
theorem shw_ratW {q : Rat} (h1 : q.num.natAbs < 10 ^ 4000) (h2 : q.den < 10 ^ 4000) : Shw (toD q) (py q).shown := by
  have l : ∀ i : Int, i.natAbs < 10 ^ 4000 → (PyData.int i).shown.length ≤ 4002 := fun i hi => by
    simp only [PyData.shown]
    have := int_text_length_le10 (k := 4000) (by decide) hi
    rw [ofString_length]
    omega
  have o : ∀ i : Int, OkS (PyData.int i).shown := fun i => by
    simp only [PyData.shown]
    exact okS_of _
  have wd : ∀ i : Int, i.natAbs < 10 ^ 4000 → showW (.int i) = true := fun i hi => by
    unfold showW
    exact decide_eq_true (Nat.lt_of_lt_of_le hi (Nat.pow_le_pow_right (by decide) (by decide)))
  have e : py q = .tuple [.int q.num, .int (q.den : Int)] := rfl
  have g2 : (q.den : Int).natAbs < 10 ^ 4000 := h2
  have l1 := l _ h1
  have l2 := l _ g2
  have key : OkS (py q).shown ∧ (py q).shown.length ≤ 9000 ∧ showW (py q) = true := by
    rw [e]
    refine ⟨?_, ?_, ?_⟩
    · show OkS (tupleText [(PyData.int q.num).shown, (PyData.int (q.den : Int)).shown])
      unfold tupleText
      refine okS_app (okS_app (okS_of _) (okS_join (okS_of _) fun t ht => ?_)) (okS_of _)
      rcases List.mem_cons.mp ht with rfl | ht
      · exact o _
      · rw [List.mem_singleton.mp ht]; exact o _
    · show (tupleText [(PyData.int q.num).shown, (PyData.int (q.den : Int)).shown]).length ≤ 9000
      unfold tupleText
      rw [strLen_append, strLen_append]
      have e1 : (Str.ofString "(").length = 1 := by decide +kernel
      have e2 : (Str.ofString (if ([(PyData.int q.num).shown, (PyData.int (q.den : Int)).shown] : List Str).length == 1 then ",)" else ")")).length ≤ 2 := by split <;> decide +kernel
      have e3 := join_len [(PyData.int q.num).shown, (PyData.int (q.den : Int)).shown]
      rw [List.map_cons, List.map_cons, List.map_nil, List.sum_cons, List.sum_cons, List.sum_nil] at e3
      omega
    · unfold showW showWs showWs showWs
      rw [wd _ h1, wd _ g2]
      rfl
  obtain ⟨k1, k2, k3⟩ := key
  have sl : 9000 ≤ sizeLine := by decide
  refine ⟨fun S => ?_, okS_ok k1⟩
  unfold gReprW
  dsimp only
  rw [deref_emb, pyOk]
  dsimp only
  rw [k3, decide_eq_true (Nat.le_trans (dep q) (show deg Rat ≤ 64 by decide)), decide_eq_true (show (py q).shown.length ≤ sizeLine by omega)]
  rfl
theorem shw_lst {α : Type} [Emb α] {w n : Nat} {xs : List α} (h : ∀ x ∈ xs, FitE w x) (hn : xs.length ≤ n) (hw : n * (w + 2) + 3 ≤ sizeLine) (hd : deg α + 1 ≤ 64) : Shw (.lst (xs.map toD)) (PyData.list (xs.map py)).shown := by
  obtain ⟨h1, h2⟩ := fitE_list h
  have hf : fitP (.list (xs.map py)) = true := by unfold fitP; exact h1
  have hwt : wtP (.list (xs.map py)) ≤ sizeLine := by
    unfold wtP
    have := Nat.mul_le_mul_right (w + 2) hn
    omega
  obtain ⟨g1, g2, g3⟩ := shown_fit hf
  have hdep : (PyData.list (xs.map py)).depth ≤ 64 := by
    have := dep xs
    exact Nat.le_trans this hd
  refine ⟨fun S => ?_, okS_ok g1⟩
  have e : toPy S (.lst (xs.map toD)) = some (.list (xs.map py)) := by
    show (toPys S (xs.map toD)).map PyData.list = _
    rw [emb_pys]; rfl
  unfold gReprW
  dsimp only
  rw [show deref S (.lst (xs.map toD)) = .lst (xs.map toD) from rfl, e]
  dsimp only
  rw [g3, decide_eq_true hdep, decide_eq_true (show (PyData.list (xs.map py)).shown.length ≤ sizeLine by omega)]
  rfl
end DL

set_option Elab.async false
set_option linter.all false
set_option maxRecDepth 100000
set_option maxHeartbeats 4000000
set_option autoImplicit false
/-! Products of terms of the count: plain. -/
namespace DL
open PySem L2
open Emb
def bin : Nat → Nat → Nat
  | _, 0 => 1
  | 0, _ + 1 => 0
  | n + 1, k + 1 => bin n k + bin n (k + 1)
theorem bin_gt : ∀ {n k : Nat}, n < k → bin n k = 0
  | 0, k + 1, _ => rfl
  | n + 1, k + 1, h => by
    show bin n k + bin n (k + 1) = 0
    rw [bin_gt (by omega), bin_gt (by omega)]
theorem bin_self : ∀ n : Nat, bin n n = 1
  | 0 => rfl
  | n + 1 => by
    show bin n n + bin n (n + 1) = 1
    rw [bin_self n, bin_gt (by omega)]
theorem bin_le : ∀ n k : Nat, bin n k ≤ 2 ^ n
  | n, 0 => by cases n <;> exact Nat.one_le_two_pow
  | 0, k + 1 => by show 0 ≤ _; omega
  | n + 1, k + 1 => by
    show bin n k + bin n (k + 1) ≤ 2 ^ (n + 1)
    have h1 := bin_le n k
    have h2 := bin_le n (k + 1)
    rw [Nat.pow_succ]; omega
theorem bin_step : ∀ {n k : Nat}, k ≤ n → bin n (k + 1) * (k + 1) = bin n k * (n - k)
  | 0, k, h => by
    obtain rfl : k = 0 := by omega
    rfl
  | n + 1, 0, _ => by
    show (bin n 0 + bin n 1) * 1 = bin (n + 1) 0 * (n + 1 - 0)
    have h : bin n 1 * 1 = bin n 0 * (n - 0) := bin_step (Nat.zero_le _)
    have e : bin n 0 = 1 := by cases n <;> rfl
    have e2 : bin (n + 1) 0 = 1 := rfl
    rw [e, e2]; rw [e] at h; omega
  | n + 1, k + 1, h => by
    have h1 : bin n (k + 1) * (k + 1) = bin n k * (n - k) := bin_step (by omega)
    show (bin n (k + 1) + bin n (k + 2)) * (k + 2) = (bin n k + bin n (k + 1)) * (n + 1 - (k + 1))
    rw [show n + 1 - (k + 1) = n - k by omega]
    by_cases q : k + 1 ≤ n
    · have h2 : bin n (k + 2) * (k + 2) = bin n (k + 1) * (n - (k + 1)) := bin_step q
      obtain ⟨m, rfl⟩ : ∃ m, n = k + 1 + m := ⟨n - (k + 1), by omega⟩
      rw [show k + 1 + m - (k + 1) = m by omega] at h2
      rw [show k + 1 + m - k = m + 1 by omega] at h1 ⊢
      generalize bin (k + 1 + m) (k + 1) = A at *
      generalize bin (k + 1 + m) (k + 2) = B at *
      generalize bin (k + 1 + m) k = C at *
      grind
    · obtain rfl : n = k := by omega
      rw [bin_gt (show n < n + 1 by omega), bin_gt (show n < n + 2 by omega), Nat.sub_self]
      simp
/-! ### factorials, trinomials -/
def fac : Nat → Nat
  | 0 => 1
  | n + 1 => (n + 1) * fac n
theorem fac_pos : ∀ n, 0 < fac n
  | 0 => Nat.one_pos
  | n + 1 => Nat.mul_pos (Nat.succ_pos n) (fac_pos n)
theorem bin_zero (n : Nat) : bin n 0 = 1 := by cases n <;> rfl
theorem bin_fac : ∀ a b : Nat, bin (a + b) a * (fac a * fac b) = fac (a + b)
  | 0, b => by
    rw [bin_zero, Nat.zero_add]
    show 1 * (1 * fac b) = fac b
    omega
  | a + 1, 0 => by
    rw [Nat.add_zero, bin_self]
    show 1 * (fac (a + 1) * 1) = _
    omega
  | a + 1, b + 1 => by
    have h1 := bin_fac a (b + 1)
    have h2 := bin_fac (a + 1) b
    have e : bin (a + 1 + (b + 1)) (a + 1) = bin (a + (b + 1)) a + bin (a + 1 + b) (a + 1) := by
      show bin (a + 1 + b) a + bin (a + 1 + b) (a + 1) = _
      rw [show a + (b + 1) = a + 1 + b by omega]
    have e2 : fac (a + 1 + (b + 1)) = (a + b + 2) * fac (a + (b + 1)) := by
      show (a + 1 + b + 1) * fac (a + 1 + b) = _
      rw [show a + 1 + b + 1 = a + b + 2 by omega, show a + (b + 1) = a + 1 + b by omega]
    have e3 : fac (a + 1 + b) = fac (a + (b + 1)) := by rw [show a + 1 + b = a + (b + 1) by omega]
    rw [e3] at h2
    rw [e, e2]
    have ea : fac (a + 1) = (a + 1) * fac a := rfl
    have eb : fac (b + 1) = (b + 1) * fac b := rfl
    rw [ea] at h2 ⊢
    rw [eb] at h1 ⊢
    generalize fac a = A at *
    generalize fac b = B at *
    generalize fac (a + (b + 1)) = C at *
    generalize bin (a + (b + 1)) a = X at *
    generalize bin (a + 1 + b) (a + 1) = Y at *
    subst h1
    grind
termination_by a b => a + b
theorem tri_fac (x y z : Nat) : bin (x + (y + z)) (y + z) * bin (y + z) y * (fac x * fac y * fac z) = fac (x + (y + z)) := by
  have h1 := bin_fac (y + z) x
  have h2 := bin_fac y z
  rw [show y + z + x = x + (y + z) by omega] at h1
  rw [← h1, ← h2]
  generalize bin (x + (y + z)) (y + z) = A
  generalize bin (y + z) y = B
  grind
theorem tri_sym (x y z : Nat) : bin (x + (y + z)) (y + z) * bin (y + z) y = bin (x + (y + z)) (x + z) * bin (x + z) x := by
  have h1 := tri_fac x y z
  have h2 := tri_fac y x z
  rw [show y + (x + z) = x + (y + z) by omega] at h2
  have hp : 0 < fac x * fac y * fac z := Nat.mul_pos (Nat.mul_pos (fac_pos x) (fac_pos y)) (fac_pos z)
  refine Nat.eq_of_mul_eq_mul_right hp ?_
  rw [h1, ← h2, Nat.mul_comm (fac y) (fac x)]
/-- how often the term of place p is in the product of terms of places j, k -/
def FT (a b : Int) (j k p : Nat) : Int := if p < j ∨ p < k then 0 else ((bin p j * bin j (p - k) : Nat) : Int) * a ^ (p - j) * b ^ (p - k)
theorem FT_sym (a b : Int) (j k p : Nat) : FT a b j k p = FT b a k j p := by
  unfold FT
  by_cases h : p < j ∨ p < k
  · rw [if_pos h, if_pos h.symm]
  · rw [if_neg h, if_neg fun z => h z.symm]
    have h1 : j ≤ p := by omega
    have h2 : k ≤ p := by omega
    have e : bin p j * bin j (p - k) = bin p k * bin k (p - j) := by
      by_cases q : p ≤ j + k
      · have := tri_sym (p - j) (p - k) (j + k - p)
        rw [show p - k + (j + k - p) = j by omega, show p - j + j = p by omega, show p - j + (j + k - p) = k by omega] at this
        exact this
      · rw [bin_gt (show j < p - k by omega), bin_gt (show k < p - j by omega)]
        rfl
    rw [e, Int.mul_assoc, Int.mul_assoc, Int.mul_comm (a ^ (p - j))]
theorem FT_low {a b : Int} {j k p : Nat} (h : p < j ∨ p < k) : FT a b j k p = 0 := if_pos h
theorem FT_high {a b : Int} {j k p : Nat} (h : j + k < p) : FT a b j k p = 0 := by
  unfold FT
  rw [if_neg (by omega), bin_gt (show j < p - k by omega), Nat.mul_zero]
  simp
theorem FT_zero (a b : Int) (j k : Nat) : FT a b j k 0 = if j + k = 0 then 1 else 0 := by
  unfold FT
  by_cases h : j + k = 0
  · have : j = 0 := by omega
    have : k = 0 := by omega
    subst j; subst k
    rw [if_neg (by omega), if_pos rfl, bin_zero]
    simp
  · rw [if_neg h, if_pos (by omega)]
def FTl (a b : Int) (j k p : Nat) : Int := if k = 0 then 0 else FT a b j (k - 1) p
def FTr (a b : Int) (j k p : Nat) : Int := if j = 0 then 0 else FT a b (j - 1) k p
def FTb (a b : Int) (j k p : Nat) : Int := if j = 0 ∨ k = 0 then 0 else FT a b (j - 1) (k - 1) p
theorem FT_step (a b : Int) {j k p : Nat} (hp : p < j + k) : FT a b j k (p + 1) = a * FTl a b j k p + b * FTr a b j k p + FTb a b j k p := by
  unfold FTl FTr FTb
  rcases j with _ | j
  · rcases k with _ | k
    · omega
    · rw [if_neg (Nat.succ_ne_zero k), if_pos rfl, if_pos (.inl rfl)]
      show FT a b 0 (k + 1) (p + 1) = a * FT a b 0 k p + b * 0 + 0
      unfold FT
      by_cases h : p < k
      · rw [if_pos (by omega), if_pos (by omega)]; simp
      · have : p = k := by omega
        subst this
        rw [if_neg (by omega), if_neg (by omega), Nat.sub_self, Nat.sub_self, bin_zero, bin_zero, bin_zero]
        simp [Int.pow_succ, Int.mul_comm]
  · rcases k with _ | k
    · rw [if_pos rfl, if_neg (Nat.succ_ne_zero j), if_pos (.inr rfl)]
      show FT a b (j + 1) 0 (p + 1) = a * 0 + b * FT a b j 0 p + 0
      unfold FT
      by_cases h : p < j
      · rw [if_pos (by omega), if_pos (by omega)]; simp
      · have : p = j := by omega
        subst this
        rw [if_neg (by omega), if_neg (by omega), Nat.sub_self, Nat.sub_self, Nat.sub_zero, Nat.sub_zero, bin_self, bin_self]
        simp [Int.pow_succ, Int.mul_comm]
    · rw [if_neg (Nat.succ_ne_zero k), if_neg (Nat.succ_ne_zero j), if_neg (by omega)]
      show FT a b (j + 1) (k + 1) (p + 1) = a * FT a b (j + 1) k p + b * FT a b j (k + 1) p + FT a b j k p
      by_cases h : p < j ∨ p < k
      · rw [FT_low (by omega), FT_low (by omega), FT_low (by omega), FT_low (by omega)]; simp
      · obtain ⟨x, rfl⟩ : ∃ x, p = j + x := ⟨p - j, by omega⟩
        obtain ⟨y, hy⟩ : ∃ y, j + x = k + y := ⟨j + x - k, by omega⟩
        have e0 : FT a b (j + 1) (k + 1) (j + x + 1) = ((bin (j + x + 1) (j + 1) * bin (j + 1) y : Nat) : Int) * a ^ x * b ^ y := by
          unfold FT
          rw [if_neg (by omega), show j + x + 1 - (k + 1) = y by omega, show j + x + 1 - (j + 1) = x by omega]
        have e1 : a * FT a b (j + 1) k (j + x) = ((bin (j + x) (j + 1) * bin (j + 1) y : Nat) : Int) * a ^ x * b ^ y := by
          unfold FT
          rcases x with _ | x
          · rw [if_pos (by omega), bin_gt (show j + 0 < j + 1 by omega)]; simp
          · rw [if_neg (by omega), show j + (x + 1) - k = y by omega, show j + (x + 1) - (j + 1) = x by omega, Int.pow_succ]
            generalize ((bin (j + (x + 1)) (j + 1) * bin (j + 1) y : Nat) : Int) = c
            grind
        have e2 : b * FT a b j (k + 1) (j + x) = ((bin (j + x) j * (if y = 0 then 0 else bin j (y - 1)) : Nat) : Int) * a ^ x * b ^ y := by
          unfold FT
          rcases y with _ | y
          · rw [if_pos (by omega), if_pos rfl]; simp
          · rw [if_neg (by omega), if_neg (Nat.succ_ne_zero y), show j + x - (k + 1) = y by omega, show j + x - j = x by omega, show y + 1 - 1 = y by omega, Int.pow_succ]
            generalize ((bin (j + x) j * bin j y : Nat) : Int) = c
            grind
        have e3 : FT a b j k (j + x) = ((bin (j + x) j * bin j y : Nat) : Int) * a ^ x * b ^ y := by
          unfold FT
          rw [if_neg (by omega), show j + x - k = y by omega, show j + x - j = x by omega]
        rw [e0, e1, e2, e3]
        have q1 : bin (j + x + 1) (j + 1) = bin (j + x) j + bin (j + x) (j + 1) := rfl
        have q2 : bin (j + 1) y = (if y = 0 then 0 else bin j (y - 1)) + bin j y := by
          rcases y with _ | y
          · rw [if_pos rfl, bin_zero, bin_zero]
          · rw [if_neg (Nat.succ_ne_zero y)]; rfl
        rw [q1, q2]
        generalize bin (j + x) j = A
        generalize bin (j + x) (j + 1) = B
        generalize (if y = 0 then 0 else bin j (y - 1)) = C
        generalize bin j y = D'
        generalize a ^ x = P
        generalize b ^ y = Q
        push_cast
        grind
theorem FT_bound {a b : Int} {j k p A : Nat} (ha : a.natAbs ≤ A) (hb : b.natAbs ≤ A) (hA : 1 ≤ A) : (FT a b j k p).natAbs ≤ (4 * A) ^ (j + k) := by
  by_cases h : p < j ∨ p < k
  · rw [FT_low h]; exact Nat.zero_le _
  · by_cases h2 : j + k < p
    · rw [FT_high h2]; exact Nat.zero_le _
    · unfold FT
      rw [if_neg h, Int.natAbs_mul, Int.natAbs_mul, Int.natAbs_pow, Int.natAbs_pow]
      have b1 : bin p j ≤ 2 ^ (j + k) := Nat.le_trans (bin_le p j) (Nat.pow_le_pow_right (by decide) (by omega))
      have b2 : bin j (p - k) ≤ 2 ^ (j + k) := Nat.le_trans (bin_le j _) (Nat.pow_le_pow_right (by decide) (by omega))
      have b3 : a.natAbs ^ (p - j) * b.natAbs ^ (p - k) ≤ A ^ (j + k) := by
        refine Nat.le_trans (Nat.mul_le_mul (Nat.pow_le_pow_left ha _) (Nat.pow_le_pow_left hb _)) ?_
        rw [← Nat.pow_add]
        exact Nat.pow_le_pow_right hA (by omega)
      have e : (4 * A) ^ (j + k) = 2 ^ (j + k) * 2 ^ (j + k) * A ^ (j + k) := by
        rw [Nat.mul_pow, show (4 : Nat) = 2 * 2 from rfl, Nat.mul_pow]
      rw [e, Nat.mul_assoc (Int.natAbs _)]
      refine Nat.mul_le_mul ?_ b3
      show bin p j * bin j (p - k) ≤ _
      exact Nat.mul_le_mul b1 b2
end DL

set_option Elab.async false
set_option linter.all false
set_option maxRecDepth 100000
set_option maxHeartbeats 4000000
set_option autoImplicit false
/-! The program: powers, ways to choose. -/
namespace DL
open PySem L2
open Emb
local macro_rules | `(tactic| walk_at "1") => `(tactic| with_reducible first
  | refine s_seq ?_ | refine s_asg ?_ | refine s_ret ?_ | refine s_if ?_ | refine s_expr ?_ | refine s_next ?_ | refine s_brk ?_ | refine s_cont ?_ | refine s_for ?_ | refine s_while ?_
  | refine p_c ?_ | refine p_bin ?_ | refine p_as ?_ | refine p_cons ?_ | refine p_nil ?_ | refine p_un ?_ | refine p_call ?_ | refine p_if ?_ | refine p_own ?_
  | refine p_keep ?_ | refine p_tru ?_ | refine p_and ?_ | refine p_or ?_ | refine p_not ?_ | refine p_val ?_ | refine p_rand ?_ | refine p_ror ?_ | refine p_rnot ?_ | refine p_chain ?_ | refine p_bif ?_
  | refine o_add ?_ | refine o_sub ?_ | refine o_ltU ?_ | refine o_leU ?_ | refine o_gtU ?_ | refine o_geU ?_ | refine o_neg ?_ | refine o_eqI ?_ | refine o_neI ?_ | refine o_abs ?_ | refine o_tru ?_ | refine p_true ?_ | refine p_false ?_
  | refine o_lenT ?_ | refine o_lenL ?_ | refine o_ix0 ?_ | refine o_ix1 ?_ | refine o_ix2 ?_ | refine o_ix0L ?_ | refine o_ix1L ?_ | refine o_ix2L ?_
  | refine s_par ?_ | refine p_yes ?_ | refine p_seq ?_ | refine s_gnil ?_ | refine s_gcons ?_ | refine s_gtux ?_ | refine s_gtupl ?_ | refine p_onone ?_ | refine p_osome ?_ | refine p_get2 ?_ | refine s_putU ?_ | refine p_sortIt ?_)
local macro_rules | `(tactic| walk_at "2") => `(tactic| first
  | walk_at "1"
  | (with_reducible refine p_var2 ?_)
  | ((with_reducible refine s_name ?_ ?_); (· exact Nat.le_of_ble_eq_true rfl); dsimp only [List.set_cons_zero, List.set_cons_succ])
  | (with_reducible refine p_tup ?_) | (with_reducible refine p_lst ?_) | ((with_reducible refine ⟨?_, ?_⟩); (· exact Nat.le_of_ble_eq_true rfl))
  | ((with_reducible refine p_ex2 (x := ?_) (y := ?_) ?_ ?_); rotate_left; rotate_left; (· rfl); refine ⟨?_, ?_, ?_⟩; (· exact Nat.le_of_ble_eq_true rfl); (· exact Nat.le_of_ble_eq_true rfl); dsimp only [List.set_cons_zero, List.set_cons_succ])
  | ((with_reducible refine p_isT ?_ ?_); (· rfl)) | ((with_reducible refine p_isF ?_ ?_); (· rfl))
  | ((with_reducible refine p_ex (x := ?_) ?_ ?_); rotate_left; (· rfl)))
local macro_rules | `(tactic| walk_at "3") => `(tactic| repeat walk_at "2")
theorem choose_spec (n j : Nat) (hn : n ≤ 200) (hj : j ≤ 300) (S : Sto) (hS : Sane S) : m_choose [.int n, .int j] S = .ok (.int (bin n j)) S := by
  refine m_defS hS rfl ?_
  show (b_choose [some (.int n), some (.int j), none, none] S).post _ _ _ _
  unfold b_choose
  walk_at "3"
  refine ⟨fun h => ?_, fun h => ?_⟩
  · have h : (n : Int) < j := of_decide_eq_true h
    walk_at "3"
    rw [bin_gt (by omega)]
    exact ⟨rfl, rfl⟩
  · have h : ¬ (n : Int) < j := of_decide_eq_false h
    walk_at "3"
    with_reducible refine p_range1 ?_
    walk_at "3"
    refine ⟨by omega, by omega, ?_⟩
    refine s_forL (fun xs δ S1 => S1 = S ∧ ∃ i z, i ≤ j ∧ xs = (rangeD 0 j).drop i ∧ δ = [some (.int n), some (.int j), some (.int (bin n i)), z]) ?_ ?_ _ _ _ ⟨rfl, 0, none, Nat.zero_le _, rfl, by cases n <;> rfl⟩
    · rintro x xs δ S1 ⟨rfl, i, z, hi, e, rfl⟩
      have hx := range_cons e
      obtain ⟨rfl, hlt, rfl⟩ := hx
      walk_at "3"
      have b1 := bin_le n i
      have b2 : 2 ^ n ≤ 2 ^ 200 := Nat.pow_le_pow_right (by decide) hn
      have b3 : (bin n i : Int).natAbs < 2 ^ 201 := by
        show bin n i < 2 ^ 201
        exact Nat.lt_of_le_of_lt (Nat.le_trans b1 b2) (by decide)
      have b4 : ((n : Int) - (i : Int)).natAbs < 2 ^ 9 := by omega
      refine o_mul (fits_of (a := 201) (b := 9) b3 b4 (by decide)) ?_
      walk_at "3"
      have b5 : ((i : Int) + 1).natAbs < 2 ^ 9 := by omega
      refine o_div ⟨by omega, log_of (b := 9) b5 (by decide)⟩ ?_
      walk_at "3"
      refine ⟨rfl, i + 1, some (.int i), by omega, rfl, ?_⟩
      have st := bin_step (n := n) (k := i) (by omega)
      have e : ((bin n i : Int) * (n - i)).fdiv (i + 1) = (bin n (i + 1) : Int) := by
        have e1 : ((bin n i : Int) * (n - i)) = ((bin n (i + 1) : Int) * (i + 1)) := by
          rw [show ((n : Int) - i) = ((n - i : Nat) : Int) by omega, show ((i : Int) + 1) = ((i + 1 : Nat) : Int) by omega, ← Int.natCast_mul, ← Int.natCast_mul, st]
        rw [e1]
        exact Int.mul_fdiv_cancel _ (by omega)
      rw [e]
    · rintro δ S1 ⟨rfl, i, z, hi, e, rfl⟩
      have : i = j := by have := range_nil e; omega
      subst this
      walk_at "3"
      exact ⟨rfl, rfl⟩
theorem pow_half (x : Int) (l : Nat) : x ^ l = (x * x) ^ (l / 2) * (if l % 2 = 1 then x else 1) := by
  have h : l = 2 * (l / 2) + l % 2 := by omega
  generalize l / 2 = m at *
  rcases (by omega : l % 2 = 0 ∨ l % 2 = 1) with e | e
  · rw [e] at h ⊢
    rw [if_neg (by decide), h, Nat.add_zero, Int.pow_mul, Int.mul_one]
    congr 1
    rw [Int.pow_succ, Int.pow_succ, Int.pow_zero, Int.one_mul]
  · rw [e] at h ⊢
    rw [if_pos rfl, h, Int.pow_succ, Int.pow_mul]
    congr 2
    rw [Int.pow_succ, Int.pow_succ, Int.pow_zero, Int.one_mul]
theorem raised_spec (n : Int) (k : Nat) (hn : n.natAbs ^ k < 2 ^ 400000) (hn1 : n.natAbs < 2 ^ 400000) (hk : k < 2 ^ 60) (S : Sto) (hS : Sane S) : m_raised [.int n, .int k] S = .ok (.int (n ^ k)) S := by
  refine m_defS hS rfl ?_
  show (b_raised [some (.int n), some (.int k), none, none] S).post _ _ _ _
  unfold b_raised
  generalize hL : (2 : Nat) ^ 400000 = L at hn hn1
  have hL2 : 2 ≤ L := by
    rw [← hL]
    exact Nat.le_trans (show 2 ≤ 2 ^ 1 by decide) (Nat.pow_le_pow_right (by decide) (by decide))
  have fits : ∀ {a b : Int}, a.natAbs < L → b.natAbs < L → mulFits a b = true := fun h1 h2 => fits_of (a := 400000) (b := 400000) (by rw [hL]; exact h1) (by rw [hL]; exact h2) (by decide)
  walk_at "3"
  refine s_whileL (fun m δ S1 => S1 = S ∧ ∃ (f x : Int) (l : Nat), l ≤ m ∧ f * x ^ l = n ^ k ∧ (n ≠ 0 → x ≠ 0 ∧ f ≠ 0) ∧ (n = 0 → x = 0 ∧ f.natAbs ≤ 1) ∧ x.natAbs < L ∧ f.natAbs < L ∧ δ = [some (.int x), some (.int k), some (.int f), some (.int l)]) ?_ k _ _ _ ⟨rfl, 1, n, k, Nat.le_refl _, Int.one_mul _, fun h => ⟨h, by decide⟩, fun h => ⟨h, by decide⟩, hn1, hL2, rfl⟩ (by show k < (k : Int).natAbs + 1; omega)
  rintro m δ S1 ⟨rfl, f, x, l, hm, he, hn0, hz0, hx, hf, rfl⟩
  walk_at "3"
  constructor
  · intro h
    have h : (0 : Int) < l := of_decide_eq_true h
    have hl : 0 < l := by omega
    obtain ⟨m', rfl⟩ : ∃ m', m = m' + 1 := ⟨m - 1, by omega⟩
    refine ⟨m', rfl, ?_⟩
    have hh := pow_half x l
    have hd : (Int.fdiv (l : Int) 2) = ((l / 2 : Nat) : Int) := by rw [Int.fdiv_eq_ediv_of_nonneg _ (by decide)]; rfl
    have hmo : (Int.fmod (l : Int) 2) = ((l % 2 : Nat) : Int) := by rw [Int.fmod_eq_emod_of_nonneg _ (by decide)]; rfl
    -- what is behind the turn
    have key : ∀ f' : Int, f' = f * (if l % 2 = 1 then x else 1) → (n ≠ 0 → f' ≠ 0) ∧ (n = 0 → f'.natAbs ≤ 1) ∧ f'.natAbs < L ∧ f' * (x * x) ^ (l / 2) = n ^ k := by
      intro f' hf'
      have e : f' * (x * x) ^ (l / 2) = n ^ k := by
        rw [← he, hh, hf', Int.mul_assoc, Int.mul_comm (if l % 2 = 1 then x else 1)]
      have nz : n ≠ 0 → f' ≠ 0 := fun h => by
        obtain ⟨a1, a2⟩ := hn0 h
        rw [hf']
        split
        · exact Int.mul_ne_zero a2 a1
        · rw [Int.mul_one]; exact a2
      have zz : n = 0 → f'.natAbs ≤ 1 := fun h => by
        obtain ⟨a1, a2⟩ := hz0 h
        rw [hf', a1]
        split
        · rw [Int.mul_zero]; decide
        · rw [Int.mul_one]; exact a2
      refine ⟨nz, zz, ?_, e⟩
      by_cases hz : n = 0
      · have := zz hz; omega
      · have e2 := congrArg Int.natAbs e
        rw [Int.natAbs_mul, Int.natAbs_pow, Int.natAbs_pow] at e2
        have hx0 : 0 < (x * x).natAbs ^ (l / 2) := Nat.pow_pos (Int.natAbs_pos.mpr (Int.mul_ne_zero (hn0 hz).1 (hn0 hz).1))
        have : f'.natAbs ≤ f'.natAbs * (x * x).natAbs ^ (l / 2) := Nat.le_mul_of_pos_right _ hx0
        omega
    have xx : 0 < l / 2 → (x * x).natAbs < L := fun h2 => by
      by_cases hz : n = 0
      · rw [(hz0 hz).1]; show 0 < L; omega
      · obtain ⟨_, _, _, e⟩ := key _ rfl
        have nz := (key _ rfl).1 hz
        have e2 := congrArg Int.natAbs e
        rw [Int.natAbs_mul, Int.natAbs_pow, Int.natAbs_pow] at e2
        have hx0 : 0 < (x * x).natAbs := Int.natAbs_pos.mpr (Int.mul_ne_zero (hn0 hz).1 (hn0 hz).1)
        have h3 : (x * x).natAbs ≤ (x * x).natAbs ^ (l / 2) := Nat.le_self_pow (by omega) _
        have h4 : (x * x).natAbs ^ (l / 2) ≤ (f * (if l % 2 = 1 then x else 1)).natAbs * (x * x).natAbs ^ (l / 2) := Nat.le_mul_of_pos_left _ (Int.natAbs_pos.mpr nz)
        omega
    have fin : ∀ {T : D → Sto → Prop} {B C : Sl → Sto → Prop} (f' : Int), f' = f * (if l % 2 = 1 then x else 1) → ((sSeq (sAsg (rBin gDiv (rVar 3) (rC (.int 2))) (gName 3)) (sAsg (rIf (bVal (rBin gGtU (rVar 3) (rC (.int 0)))) (rBin gMul (rVar 0) (rVar 0)) (rVar 0)) (gName 0))) [some (.int x), some (.int k), some (.int f'), some (.int l)] S1).post (fun δ2 S2 => S2 = S1 ∧ ∃ (f x : Int) (l : Nat), l ≤ m' ∧ f * x ^ l = n ^ k ∧ (n ≠ 0 → x ≠ 0 ∧ f ≠ 0) ∧ (n = 0 → x = 0 ∧ f.natAbs ≤ 1) ∧ x.natAbs < L ∧ f.natAbs < L ∧ δ2 = [some (.int x), some (.int k), some (.int f), some (.int l)]) T B C := by
      intro T B C f' hf'
      obtain ⟨k1, k2, k3, k4⟩ := key f' hf'
      walk_at "3"
      refine o_div ⟨by decide, by decide⟩ ?_
      walk_at "3"
      rw [hd]
      walk_at "3"
      refine ⟨fun h2 => ?_, fun h2 => ?_⟩
      · have h2 : (0 : Int) < ((l / 2 : Nat) : Int) := of_decide_eq_true h2
        walk_at "3"
        refine o_mul (fits hx hx) ?_
        walk_at "3"
        exact ⟨rfl, f', x * x, l / 2, by omega, k4, fun h => ⟨Int.mul_ne_zero (hn0 h).1 (hn0 h).1, k1 h⟩, fun h => ⟨by rw [(hz0 h).1]; rfl, k2 h⟩, xx (by omega), k3, rfl⟩
      · have h2 : ¬ (0 : Int) < ((l / 2 : Nat) : Int) := of_decide_eq_false h2
        have h3 : l / 2 = 0 := by omega
        walk_at "3"
        rw [h3, Int.pow_zero] at k4
        exact ⟨rfl, f', x, l / 2, by omega, by rw [h3, Int.pow_zero]; exact k4, fun h => ⟨(hn0 h).1, k1 h⟩, fun h => ⟨(hz0 h).1, k2 h⟩, hx, k3, rfl⟩
    walk_at "3"
    refine o_mod (by decide) ?_
    rw [hmo]
    walk_at "3"
    refine ⟨fun h2 => ?_, fun h2 => ?_⟩
    · have h2 : l % 2 = 1 := by have : ((l % 2 : Nat) : Int) = 1 := by simpa using h2
                                omega
      refine s_asg ?_
      walk_at "3"
      refine o_mul (fits hf hx) ?_
      refine s_name (Nat.le_of_ble_eq_true rfl) ?_
      exact fin (f * x) (by rw [if_pos h2])
    · have h2 : ¬ l % 2 = 1 := fun z => by rw [z] at h2; cases h2
      refine s_next ?_
      exact fin f (by rw [if_neg h2, Int.mul_one])
  · intro h
    have h : ¬ (0 : Int) < l := of_decide_eq_false h
    have hl : l = 0 := by omega
    subst hl
    walk_at "3"
    rw [Int.pow_zero, Int.mul_one] at he
    rw [he]
    exact ⟨rfl, rfl⟩
end DL

set_option Elab.async false
set_option linter.all false
set_option maxRecDepth 100000
set_option maxHeartbeats 4000000
set_option autoImplicit false
/-! Products of rows: plain. -/
namespace DL
open PySem L2
open Emb
/-! ### sizes of fractions: not beyond V, the number below not beyond D -/
def QB (V D : Nat) (q : Rat) : Prop := q.num.natAbs ≤ V * q.den ∧ q.den ≤ D
theorem qb_of {a b : Int} {V D : Nat} (hb : 0 < b) (ha : a.natAbs ≤ V * b.natAbs) (hd : b.natAbs ≤ D) : QB V D ((a : Rat) / (b : Rat)) := by
  obtain ⟨h1, h2⟩ := rat_of (a := a) hb
  have hg : 0 < Int.gcd a b := Int.gcd_pos_of_ne_zero_right _ (by omega)
  obtain ⟨x, hx⟩ : (Int.gcd a b : Int) ∣ a := Int.gcd_dvd_left ..
  obtain ⟨y, hy⟩ : (Int.gcd a b : Int) ∣ b := Int.gcd_dvd_right ..
  have hgg : (Int.gcd a b : Int) ≠ 0 := by omega
  have n1 : a.fdiv (Int.gcd a b) = x := by
    rw [Int.fdiv_eq_ediv_of_nonneg _ (by omega)]
    exact Int.ediv_eq_of_eq_mul_right hgg hx
  have n2 : b.fdiv (Int.gcd a b) = y := by
    rw [Int.fdiv_eq_ediv_of_nonneg _ (by omega)]
    exact Int.ediv_eq_of_eq_mul_right hgg hy
  rw [n1] at h1
  rw [n2] at h2
  generalize (a : Rat) / (b : Rat) = q at h1 h2
  have hy2 : y.natAbs = q.den := by rw [← h2]; rfl
  have ea : a.natAbs = Int.gcd a b * x.natAbs := by
    have := congrArg Int.natAbs hx
    rwa [Int.natAbs_mul, Int.natAbs_natCast] at this
  have eb : b.natAbs = Int.gcd a b * q.den := by
    have := congrArg Int.natAbs hy
    rwa [Int.natAbs_mul, Int.natAbs_natCast, hy2] at this
  generalize Int.gcd a b = g at *
  rw [ea, eb] at ha
  refine ⟨?_, ?_⟩
  · rw [h1]
    refine Nat.le_of_mul_le_mul_left ?_ hg
    calc g * x.natAbs ≤ V * (g * q.den) := ha
      _ = g * (V * q.den) := by rw [← Nat.mul_assoc, ← Nat.mul_assoc, Nat.mul_comm V g]
  · have : q.den ≤ g * q.den := Nat.le_mul_of_pos_left _ hg
    omega
theorem qb_mono {V W D E : Nat} {q : Rat} (h : QB V D q) (hv : V ≤ W) (hd : D ≤ E) : QB W E q := ⟨Nat.le_trans h.1 (Nat.mul_le_mul_right _ hv), Nat.le_trans h.2 hd⟩
theorem qb_add {V W D E : Nat} {x y : Rat} (hx : QB V D x) (hy : QB W E y) : QB (V + W) (D * E) (x + y) := by
  rw [rat_add]
  refine qb_of (Int.mul_pos (den_pos' x) (den_pos' y)) ?_ ?_
  · have e : ((x.den : Int) * y.den).natAbs = x.den * y.den := by rw [Int.natAbs_mul]; rfl
    rw [e]
    have h1 : (x.num * y.den).natAbs ≤ V * x.den * y.den := by rw [Int.natAbs_mul]; exact Nat.mul_le_mul_right _ hx.1
    have h2 : (y.num * x.den).natAbs ≤ W * y.den * x.den := by rw [Int.natAbs_mul]; exact Nat.mul_le_mul_right _ hy.1
    have h3 : (V + W) * (x.den * y.den) = V * x.den * y.den + W * y.den * x.den := by
      rw [Nat.add_mul, Nat.mul_assoc, Nat.mul_assoc, Nat.mul_comm y.den x.den]
    omega
  · rw [Int.natAbs_mul]
    exact Nat.mul_le_mul hx.2 hy.2
theorem qb_mul {V W D E : Nat} {x y : Rat} (hx : QB V D x) (hy : QB W E y) : QB (V * W) (D * E) (x * y) := by
  rw [rat_mul]
  refine qb_of (Int.mul_pos (den_pos' x) (den_pos' y)) ?_ ?_
  · have e : ((x.den : Int) * y.den).natAbs = x.den * y.den := by rw [Int.natAbs_mul]; rfl
    rw [e, Int.natAbs_mul]
    have := Nat.mul_le_mul hx.1 hy.1
    rwa [Nat.mul_mul_mul_comm] at this
  · rw [Int.natAbs_mul]
    exact Nat.mul_le_mul hx.2 hy.2
theorem qb_int {n : Int} {V : Nat} (h : n.natAbs ≤ V) : QB V 1 (n : Rat) := ⟨by show n.natAbs ≤ V * 1; omega, Nat.le_refl _⟩
theorem qb_rb {V D : Nat} {q : Rat} (h : QB V D q) (hV : 1 ≤ V) : RB' (V * D) q := by
  refine ⟨Nat.le_trans h.1 (Nat.mul_le_mul_left _ h.2), ?_⟩
  have := Nat.mul_le_mul hV h.2
  omega
theorem rb_qb {B : Nat} {q : Rat} (h : RB' B q) : QB B B q := ⟨Nat.le_trans h.1 (Nat.le_mul_of_pos_right _ q.den_pos), h.2⟩
/-! ### sums over rows -/
section
variable {κ : Type} [DecidableEq κ]
def sumR {α : Type} (xs : List α) (f : α → Rat) : Rat := (xs.map f).sum
theorem sumR_nil {α : Type} (f : α → Rat) : sumR [] f = 0 := rfl
theorem sumR_cons {α : Type} (x : α) (xs : List α) (f : α → Rat) : sumR (x :: xs) f = f x + sumR xs f := by unfold sumR; rw [List.map_cons, List.sum_cons]
theorem sumR_app {α : Type} (xs ys : List α) (f : α → Rat) : sumR (xs ++ ys) f = sumR xs f + sumR ys f := by
  induction xs with
  | nil => rw [List.nil_append, sumR_nil]; grind
  | cons x r ih => rw [List.cons_append, sumR_cons, sumR_cons, ih]; grind
theorem sumR_flat {α β : Type} (xs : List α) (g : α → List β) (f : β → Rat) : sumR (xs.flatMap g) f = sumR xs fun x => sumR (g x) f := by
  induction xs with
  | nil => rfl
  | cons x r ih => rw [List.flatMap_cons, sumR_app, sumR_cons, ih]
theorem sumR_map {α β : Type} (xs : List α) (g : α → β) (f : β → Rat) : sumR (xs.map g) f = sumR xs fun x => f (g x) := by unfold sumR; rw [List.map_map]; rfl
theorem sumR_congr {α : Type} {xs : List α} {f g : α → Rat} (h : ∀ x ∈ xs, f x = g x) : sumR xs f = sumR xs g := by
  induction xs with
  | nil => rfl
  | cons x r ih => rw [sumR_cons, sumR_cons, h x List.mem_cons_self, ih fun y hy => h y (List.mem_cons_of_mem _ hy)]
theorem sumR_zero {α : Type} {xs : List α} {f : α → Rat} (h : ∀ x ∈ xs, f x = 0) : sumR xs f = 0 := by
  induction xs with
  | nil => rfl
  | cons x r ih => rw [sumR_cons, h x List.mem_cons_self, ih fun y hy => h y (List.mem_cons_of_mem _ hy)]; grind
theorem sumR_add {α : Type} (xs : List α) (f g : α → Rat) : (sumR xs fun x => f x + g x) = sumR xs f + sumR xs g := by
  induction xs with
  | nil => rw [sumR_nil, sumR_nil, sumR_nil]; grind
  | cons x r ih => rw [sumR_cons, sumR_cons, sumR_cons, ih]; grind
theorem sumR_mul {α : Type} (xs : List α) (c : Rat) (f : α → Rat) : (sumR xs fun x => c * f x) = c * sumR xs f := by
  induction xs with
  | nil => rw [sumR_nil, sumR_nil]; grind
  | cons x r ih => rw [sumR_cons, sumR_cons, ih]; grind
theorem sumR_swap {α β : Type} (xs : List α) (ys : List β) (f : α → β → Rat) : (sumR xs fun x => sumR ys fun y => f x y) = sumR ys fun y => sumR xs fun x => f x y := by
  induction xs with
  | nil => rw [sumR_nil]; exact (sumR_zero fun y _ => rfl).symm
  | cons x r ih =>
    rw [sumR_cons, ih, ← sumR_add]
    exact sumR_congr fun y _ => (sumR_cons x r fun x => f x y).symm
/-- what a row of additions gives to the place q -/
def con (L : List (κ × Rat)) (q : κ) : Rat := sumR L fun p => if p.1 = q then p.2 else 0
def addAll (acc L : List (κ × Rat)) : List (κ × Rat) := L.foldl (fun acc p => addT acc p.1 p.2) acc
theorem at0_addAll : ∀ (L acc : List (κ × Rat)) (q : κ), at0 (addAll acc L) q = at0 acc q + con L q
  | [], acc, q => by show at0 acc q = at0 acc q + 0; grind
  | p :: r, acc, q => by
    show at0 (addAll (addT acc p.1 p.2) r) q = _
    rw [at0_addAll r, at0_add]
    unfold con
    rw [sumR_cons]
    by_cases h : q = p.1
    · subst h; rw [if_pos rfl, if_pos rfl]; grind
    · rw [if_neg h, if_neg (Ne.symm h)]; grind
theorem nd_addAll : ∀ (L acc : List (κ × Rat)), ND acc → ND (addAll acc L) := fun L acc h => nd_fold L acc h
/-- additions on the way -/
structure OnWay (V D T : Nat) (total acc rest : List (κ × Rat)) : Prop where
  eq : addAll acc rest = total
  nd : ND acc
  ex : ∃ t, t + rest.length ≤ T ∧ acc.length ≤ t ∧ ∀ p ∈ acc, QB (V * t) (D ^ t) p.2
  rest : ∀ p ∈ rest, QB V D p.2
theorem onway_start {V D T : Nat} {L : List (κ × Rat)} (hl : L.length ≤ T) (h : ∀ p ∈ L, QB V D p.2) : OnWay V D T (addAll [] L) [] L := ⟨rfl, List.nodup_nil, ⟨0, by omega, Nat.le_refl _, fun _ z => nomatch z⟩, h⟩
theorem onway_step {V D T : Nat} (hD : 1 ≤ D) {total acc rest : List (κ × Rat)} {p : κ × Rat} (h : OnWay V D T total acc (p :: rest)) : OnWay V D T total (addT acc p.1 p.2) rest := by
  obtain ⟨t, h1, h2, h3⟩ := h.ex
  have hp := h.rest p List.mem_cons_self
  refine ⟨h.eq, nd_add h.nd _ _, ⟨t + 1, by rw [List.length_cons] at h1; omega, Nat.le_trans (put_len _ _ _) (by omega), ?_⟩, fun q hq => h.rest q (List.mem_cons_of_mem _ hq)⟩
  have up : ∀ {q : Rat}, QB (V * t) (D ^ t) q → QB (V * (t + 1)) (D ^ (t + 1)) q := fun hq => qb_mono hq (Nat.mul_le_mul_left _ (Nat.le_succ _)) (Nat.pow_le_pow_right hD (Nat.le_succ _))
  refine put_all (fun q hq => up (h3 q hq)) ?_
  show QB (V * (t + 1)) (D ^ (t + 1)) ((getT acc p.1).getD 0 + p.2)
  rw [Nat.mul_add, Nat.mul_one, Nat.pow_succ]
  refine qb_add ?_ hp
  cases e : getT acc p.1 with
  | none => exact ⟨Nat.zero_le _, Nat.one_le_pow _ _ hD⟩
  | some w => exact h3 _ (getT_mem e)
theorem onway_rb {V D T : Nat} (hV : 1 ≤ V) (hD : 1 ≤ D) (hT : 1 ≤ T) {total acc rest : List (κ × Rat)} (h : OnWay V D T total acc rest) : ∀ p ∈ acc, RB' (V * T * D ^ T) p.2 := fun p hp => by
  obtain ⟨t, h1, h2, h3⟩ := h.ex
  have := qb_mono (h3 p hp) (Nat.mul_le_mul_left V (show t ≤ T by omega)) (Nat.pow_le_pow_right hD (show t ≤ T by omega))
  exact qb_rb this (Nat.mul_pos hV hT)
end
/-! ### products of boxes -/
def at0I (m : Mono) (q : Str) : Int := (getT m q).getD 0
def addI (acc : Mono) (k : Str) (v : Int) : Mono := putT acc k ((getT acc k).getD 0 + v)
def mfold (one other : Mono) : Mono := other.foldl (fun acc p => addI acc p.1 p.2) (mergeT [] one)
def mmul (one other : Mono) : Mono := srt (mfold one other)
theorem at0I_add (m : Mono) (k q : Str) (v : Int) : at0I (addI m k v) q = if q = k then at0I m k + v else at0I m q := by
  unfold at0I addI
  rw [getT_put]
  split <;> rfl
theorem at0I_fold : ∀ (other acc : Mono), ND other → ∀ q, at0I (other.foldl (fun acc p => addI acc p.1 p.2) acc) q = at0I acc q + at0I other q
  | [], acc, _, q => by show at0I acc q = at0I acc q + 0; omega
  | p :: r, acc, h, q => by
    unfold ND at h
    rw [List.map_cons, List.nodup_cons] at h
    show at0I (r.foldl _ (addI acc p.1 p.2)) q = _
    rw [at0I_fold r _ h.2, at0I_add]
    have e : at0I (p :: r) q = if p.1 = q then p.2 else at0I r q := by
      unfold at0I
      rw [show p :: r = (p.1, p.2) :: r from rfl, getT_cons]
      split <;> rfl
    rw [e]
    by_cases z : q = p.1
    · subst z
      rw [if_pos rfl, if_pos rfl]
      have : at0I r p.1 = 0 := by unfold at0I; rw [getT_none.mpr h.1]; rfl
      omega
    · rw [if_neg z, if_neg (Ne.symm z)]
theorem add_deg (m : Mono) (k : Str) (v : Int) (hn : ND m) : degT (addI m k v) = degT m + v := by
  unfold addI putT
  cases e : getT m k with
  | some w =>
    rw [if_pos (show (some w).isSome = true from rfl), repl_deg m k _ hn e]
    show degT m + (w + v) - w = _
    omega
  | none =>
    rw [if_neg (show ¬ (none : Option Int).isSome = true by decide)]
    unfold degT
    rw [List.map_append, List.sum_append]
    simp
theorem mfold_ok : ∀ (other acc : Mono), ND acc → (∀ p ∈ acc, nice p.1 = true ∧ 1 ≤ p.2) → (∀ p ∈ other, nice p.1 = true ∧ 1 ≤ p.2) →
    ND (other.foldl (fun acc p => addI acc p.1 p.2) acc) ∧ (∀ p ∈ other.foldl (fun acc p => addI acc p.1 p.2) acc, nice p.1 = true ∧ 1 ≤ p.2) ∧ degT (other.foldl (fun acc p => addI acc p.1 p.2) acc) = degT acc + degT other
  | [], acc, h1, h2, _ => ⟨h1, h2, by show degT acc = degT acc + 0; omega⟩
  | p :: r, acc, h1, h2, h3 => by
    have hp := h3 p List.mem_cons_self
    obtain ⟨g1, g2, g3⟩ := mfold_ok r (addI acc p.1 p.2) (nd_put h1 _ _) (put_all h2 ⟨hp.1, by
      show 1 ≤ (getT acc p.1).getD 0 + p.2
      cases e : getT acc p.1 with
      | none => show 1 ≤ 0 + p.2; omega
      | some w => have := (h2 _ (getT_mem e)).2; show 1 ≤ w + p.2; have := hp.2; omega⟩) fun q hq => h3 q (List.mem_cons_of_mem _ hq)
    refine ⟨g1, g2, g3.trans ?_⟩
    rw [add_deg _ _ _ h1]
    unfold degT
    rw [List.map_cons, List.sum_cons]
    omega
theorem mmul_ok {n k : Nat} {a b : Mono} (ha : MonO n a) (hb : MonO k b) : MonO (n + k) (mmul a b) := by
  have na := inc_nd ha.inc
  obtain ⟨g1, g2, g3⟩ := mfold_ok b (mergeT [] a) (by rw [merge_id na]; exact na) (by rw [merge_id na]; exact ha.nc) hb.nc
  rw [merge_id na] at g1 g2 g3
  have e : mfold a b = b.foldl (fun acc p => addI acc p.1 p.2) a := by unfold mfold; rw [merge_id na]
  have h1 := ha.dg
  have h2 := hb.dg
  unfold mmul
  rw [e]
  exact ⟨inc_srt g1, fun p hp => g2 p (srt_mem.mp hp), by rw [deg_perm (srt_perm _), g3]; omega⟩
theorem at0I_mmul {n k : Nat} {a b : Mono} (ha : MonO n a) (hb : MonO k b) (q : Str) : at0I (mmul a b) q = at0I a q + at0I b q := by
  have na := inc_nd ha.inc
  obtain ⟨g1, _⟩ := mfold_ok b (mergeT [] a) (by rw [merge_id na]; exact na) (by rw [merge_id na]; exact ha.nc) hb.nc
  unfold mmul
  have : at0I (srt (mfold a b)) q = at0I (mfold a b) q := by unfold at0I; rw [get_srt (show ND (mfold a b) from g1)]
  rw [this]
  unfold mfold
  rw [at0I_fold b _ (inc_nd hb.inc), merge_id na]
theorem mono_one {n k : Nat} {a b : Mono} (ha : MonO n a) (hb : MonO k b) (h : ∀ q, at0I a q = at0I b q) : a = b := by
  refine inc_one ha.inc hb.inc fun q => ?_
  have h := h q
  unfold at0I at h
  cases e : getT a q with
  | none =>
    cases e2 : getT b q with
    | none => rfl
    | some w => rw [e, e2] at h; have := (hb.nc _ (getT_mem e2)).2; have h : (0 : Int) = w := h; omega
  | some v =>
    cases e2 : getT b q with
    | none => rw [e, e2] at h; have := (ha.nc _ (getT_mem e)).2; have h : v = (0 : Int) := h; omega
    | some w => rw [e, e2] at h; exact congrArg some h
theorem mmul_comm {n k : Nat} {a b : Mono} (ha : MonO n a) (hb : MonO k b) : mmul a b = mmul b a :=
  mono_one (mmul_ok ha hb) (mmul_ok hb ha) fun q => by rw [at0I_mmul ha hb, at0I_mmul hb ha]; omega
theorem mono_nil : MonO 0 [] := ⟨List.Pairwise.nil, (fun _ z => nomatch z), Int.le_refl _⟩
theorem mmul_nil {n : Nat} {a : Mono} (ha : MonO n a) : mmul a [] = a := mono_one (mmul_ok ha mono_nil) ha fun q => by rw [at0I_mmul ha mono_nil]; show _ + 0 = _; omega
/-! ### products of rows -/
def termT (a b : Int) (j k : Nat) : List (Int × Int) := (List.range (min j k + 1)).map fun i => (((max j k + i : Nat) : Int), FT a b j k (max j k + i))
def pterms (p r : Kind × Rat) : List (Kind × Rat) := (termT p.1.b r.1.b p.1.p.toNat r.1.p.toNat).map fun t => (Kind.mk (mmul p.1.m r.1.m) t.1 (p.1.b * r.1.b), p.2 * r.2 * (t.2 : Rat))
def lterms (p r : Kind × Rat) : List (Kind × Rat) := (List.range (p.1.p.toNat + r.1.p.toNat + 1)).map fun (i : Nat) => (Kind.mk (mmul p.1.m r.1.m) (i : Int) (p.1.b * r.1.b), p.2 * r.2 * ((FT p.1.b r.1.b p.1.p.toNat r.1.p.toNat i : Int) : Rat))
def prodL (f : Kind × Rat → Kind × Rat → List (Kind × Rat)) (one other : List (Kind × Rat)) : List (Kind × Rat) := one.flatMap fun p => other.flatMap fun r => f p r
theorem con_prod (f : Kind × Rat → Kind × Rat → List (Kind × Rat)) (one other : List (Kind × Rat)) (q : Kind) : con (prodL f one other) q = sumR one fun p => sumR other fun r => con (f p r) q := by
  unfold con prodL
  rw [sumR_flat]
  exact sumR_congr fun p _ => sumR_flat other _ _
theorem con_lterms (p r : Kind × Rat) (q : Kind) : con (lterms p r) q = con (pterms p r) q := by
  unfold lterms pterms termT
  generalize p.1.p.toNat = j
  generalize r.1.p.toNat = k
  have e : List.range (j + k + 1) = List.range (max j k) ++ (List.range (min j k + 1)).map fun i => max j k + i := by
    rw [show j + k + 1 = max j k + (min j k + 1) by omega, List.range_add]
  rw [e, List.map_append, List.map_map, List.map_map]
  unfold con
  rw [sumR_app]
  have z : sumR ((List.range (max j k)).map fun (i : Nat) => (Kind.mk (mmul p.1.m r.1.m) (i : Int) (p.1.b * r.1.b), p.2 * r.2 * ((FT p.1.b r.1.b j k i : Int) : Rat))) (fun p => if p.1 = q then p.2 else 0) = 0 := by
    rw [sumR_map]
    refine sumR_zero fun i hi => ?_
    have hi := List.mem_range.mp hi
    rw [FT_low (show i < j ∨ i < k by omega)]
    split
    · show p.2 * r.2 * ((0 : Int) : Rat) = 0
      have : ((0 : Int) : Rat) = 0 := rfl
      rw [this]; grind
    · rfl
  rw [z]
  show 0 + sumR (List.map _ _) _ = _
  have : ∀ x : Rat, 0 + x = x := fun x => by grind
  rw [this]
  rfl
theorem con_sym {n k : Nat} {p r : Kind × Rat} (hp : MonO n p.1.m) (hr : MonO k r.1.m) (q : Kind) : con (lterms p r) q = con (lterms r p) q := by
  unfold lterms con
  rw [sumR_map, sumR_map, Nat.add_comm r.1.p.toNat]
  refine sumR_congr fun i _ => ?_
  dsimp only
  rw [mmul_comm hp hr, Int.mul_comm p.1.b, FT_sym, Rat.mul_comm p.2]
theorem prod_sym {n k : Nat} {one other : List (Kind × Rat)} (h1 : ∀ p ∈ one, MonO n p.1.m) (h2 : ∀ p ∈ other, MonO k p.1.m) (q : Kind) : con (prodL lterms one other) q = con (prodL lterms other one) q := by
  rw [con_prod, con_prod, sumR_swap]
  exact sumR_congr fun r hr => sumR_congr fun p hp => con_sym (h1 p hp) (h2 r hr) q
theorem prod_law (one other : List (Kind × Rat)) (q : Kind) : con (prodL lterms one other) q = con (prodL pterms one other) q := by
  rw [con_prod, con_prod]
  exact sumR_congr fun p _ => sumR_congr fun r _ => con_lterms p r q
def prodT (one other : List (Kind × Rat)) : List (Kind × Rat) := rowsT (addAll [] (prodL pterms one other))
theorem prodT_law (one other : List (Kind × Rat)) : rowsT (addAll [] (prodL lterms one other)) = prodT one other := rows_ext (nd_addAll _ _ List.nodup_nil) (nd_addAll _ _ List.nodup_nil) fun q => by
  rw [at0_addAll, at0_addAll, prod_law]
theorem prodT_sym {n k : Nat} {one other : List (Kind × Rat)} (h1 : ∀ p ∈ one, MonO n p.1.m) (h2 : ∀ p ∈ other, MonO k p.1.m) : prodT one other = prodT other one := rows_ext (nd_addAll _ _ List.nodup_nil) (nd_addAll _ _ List.nodup_nil) fun q => by
  rw [at0_addAll, at0_addAll, ← prod_law, ← prod_law, prod_sym h1 h2]
end DL

set_option Elab.async false
set_option linter.all false
set_option maxRecDepth 100000
set_option maxHeartbeats 4000000
set_option autoImplicit false
/-! The program: products of terms. -/
namespace DL
open PySem L2
open Emb
local macro_rules | `(tactic| walk_at "1") => `(tactic| with_reducible first
  | refine s_seq ?_ | refine s_asg ?_ | refine s_ret ?_ | refine s_if ?_ | refine s_expr ?_ | refine s_next ?_ | refine s_brk ?_ | refine s_cont ?_ | refine s_for ?_ | refine s_while ?_
  | refine p_c ?_ | refine p_bin ?_ | refine p_as ?_ | refine p_cons ?_ | refine p_nil ?_ | refine p_un ?_ | refine p_call ?_ | refine p_if ?_ | refine p_own ?_
  | refine p_keep ?_ | refine p_tru ?_ | refine p_and ?_ | refine p_or ?_ | refine p_not ?_ | refine p_val ?_ | refine p_rand ?_ | refine p_ror ?_ | refine p_rnot ?_ | refine p_chain ?_ | refine p_bif ?_
  | refine o_add ?_ | refine o_sub ?_ | refine o_ltU ?_ | refine o_leU ?_ | refine o_gtU ?_ | refine o_geU ?_ | refine o_neg ?_ | refine o_eqI ?_ | refine o_neI ?_ | refine o_abs ?_ | refine o_tru ?_ | refine p_true ?_ | refine p_false ?_
  | refine o_lenT ?_ | refine o_lenL ?_ | refine o_ix0 ?_ | refine o_ix1 ?_ | refine o_ix2 ?_ | refine o_ix0L ?_ | refine o_ix1L ?_ | refine o_ix2L ?_
  | refine s_par ?_ | refine p_yes ?_ | refine p_seq ?_ | refine s_gnil ?_ | refine s_gcons ?_ | refine s_gtux ?_ | refine s_gtupl ?_ | refine p_onone ?_ | refine p_osome ?_ | refine p_get2 ?_ | refine s_putU ?_ | refine p_sortIt ?_)
local macro_rules | `(tactic| walk_at "2") => `(tactic| first
  | walk_at "1"
  | (with_reducible refine p_var2 ?_)
  | ((with_reducible refine s_name ?_ ?_); (· exact Nat.le_of_ble_eq_true rfl); dsimp only [List.set_cons_zero, List.set_cons_succ])
  | (with_reducible refine p_tup ?_) | (with_reducible refine p_lst ?_) | ((with_reducible refine ⟨?_, ?_⟩); (· exact Nat.le_of_ble_eq_true rfl))
  | ((with_reducible refine p_ex2 (x := ?_) (y := ?_) ?_ ?_); rotate_left; rotate_left; (· rfl); refine ⟨?_, ?_, ?_⟩; (· exact Nat.le_of_ble_eq_true rfl); (· exact Nat.le_of_ble_eq_true rfl); dsimp only [List.set_cons_zero, List.set_cons_succ])
  | ((with_reducible refine p_isT ?_ ?_); (· rfl)) | ((with_reducible refine p_isF ?_ ?_); (· rfl))
  | ((with_reducible refine p_ex (x := ?_) ?_ ?_); rotate_left; (· rfl)))
local macro_rules | `(tactic| walk_at "3") => `(tactic| repeat walk_at "2")
theorem maxI_mem {ns : List Int} (h : ns ≠ []) : ∃ m, maxI ns = some m ∧ m ∈ ns := by
  cases ns with
  | nil => exact absurd rfl h
  | cons i r =>
    refine ⟨r.foldl max i, rfl, ?_⟩
    rcases (foldl_max r i).1 with h | h
    · rw [h]; exact List.mem_cons_self
    · exact List.mem_cons_of_mem _ h
theorem o_maxL {S : Sto} {ns : List Int} {m : Int} {Q : D → Sto → Prop} (e : maxI ns = some m) (h : Q (.int m) S) : (Res.lift (gMax S [.lst (ns.map .int)]) S).post Q := p_lift (by unfold gMax deref; dsimp only; rw [asInts_map]; dsimp only [Option.bind_some]; rw [e]; rfl) h
def mxI (ns : List Int) : Int := (maxI (ns ++ [0])).getD 0
theorem mxI_ok (ns : List Int) : maxI (ns ++ [0]) = some (mxI ns) ∧ (mxI ns ∈ ns ∨ mxI ns = 0) := by
  obtain ⟨m, h1, h2⟩ := maxI_mem (ns := ns ++ [0]) (by simp)
  have e : mxI ns = m := by unfold mxI; rw [h1]; rfl
  rw [e]
  refine ⟨h1, ?_⟩
  rcases List.mem_append.mp h2 with h | h
  · exact .inl h
  · exact .inr (by simpa using h)
theorem o_catI {S : Sto} {a b : List Int} {Q : D → Sto → Prop} (hl : a.length + b.length ≤ sizeLine) (h : Q (.lst ((a ++ b).map .int)) S) : (Res.lift (gCat S (.lst (a.map .int)) (.lst (b.map .int))) S).post Q := p_lift (by
  show (if (a.map D.int).length + (b.map D.int).length ≤ sizeLine then some (D.lst (a.map .int ++ b.map .int)) else none) = _
  rw [List.length_map, List.length_map, if_pos hl, List.map_append]) h
/-- rows of bounded kinds, fractions -/
structure Rw (n pl A V D' : Nat) (rows : List (Kind × Rat)) : Prop where
  m : ∀ p ∈ rows, MonO n p.1.m
  p0 : ∀ p ∈ rows, 0 ≤ p.1.p
  p1 : ∀ p ∈ rows, p.1.p ≤ pl
  b : ∀ p ∈ rows, p.1.b.natAbs ≤ A
  q : ∀ p ∈ rows, QB V D' p.2
theorem mono_small {n : Nat} {m : Mono} (h : MonO n m) : degT m ≤ n ∧ m.length ≤ n := ⟨h.dg, (mono_len h).1⟩
theorem rangeT (lo : Int) (n : Nat) : rangeD lo (lo + n) = (List.range n).map fun (i : Nat) => D.int (lo + i) := by
  unfold rangeD
  rw [show (lo + (n : Int) - lo).toNat = n by omega]
theorem pow_lt4 {a : Int} {A e : Nat} (ha : a.natAbs ≤ A) (hA : A ≤ 2 ^ 100) (he : e ≤ 2000) : a.natAbs ^ e < 2 ^ 400000 ∧ a.natAbs < 2 ^ 400000 := by
  have h1 : a.natAbs ^ e ≤ (2 ^ 100) ^ 2000 := Nat.le_trans (Nat.pow_le_pow_left (Nat.le_trans ha hA) _) (Nat.pow_le_pow_right (by decide) he)
  rw [← Nat.pow_mul] at h1
  refine ⟨Nat.lt_of_le_of_lt h1 (Nat.pow_lt_pow_right (by decide) (by decide)), Nat.lt_of_le_of_lt (Nat.le_trans ha hA) (Nat.pow_lt_pow_right (by decide) (by decide))⟩
end DL

set_option Elab.async false
set_option linter.all false
set_option maxRecDepth 100000
set_option maxHeartbeats 4000000
set_option autoImplicit false
/-! The program: products of forms. -/
namespace DL
open PySem L2
open Emb
local macro_rules | `(tactic| walk_at "1") => `(tactic| with_reducible first
  | refine s_seq ?_ | refine s_asg ?_ | refine s_ret ?_ | refine s_if ?_ | refine s_expr ?_ | refine s_next ?_ | refine s_brk ?_ | refine s_cont ?_ | refine s_for ?_ | refine s_while ?_
  | refine p_c ?_ | refine p_bin ?_ | refine p_as ?_ | refine p_cons ?_ | refine p_nil ?_ | refine p_un ?_ | refine p_call ?_ | refine p_if ?_ | refine p_own ?_
  | refine p_keep ?_ | refine p_tru ?_ | refine p_and ?_ | refine p_or ?_ | refine p_not ?_ | refine p_val ?_ | refine p_rand ?_ | refine p_ror ?_ | refine p_rnot ?_ | refine p_chain ?_ | refine p_bif ?_
  | refine o_add ?_ | refine o_sub ?_ | refine o_ltU ?_ | refine o_leU ?_ | refine o_gtU ?_ | refine o_geU ?_ | refine o_neg ?_ | refine o_eqI ?_ | refine o_neI ?_ | refine o_abs ?_ | refine o_tru ?_ | refine p_true ?_ | refine p_false ?_
  | refine o_lenT ?_ | refine o_lenL ?_ | refine o_ix0 ?_ | refine o_ix1 ?_ | refine o_ix2 ?_ | refine o_ix0L ?_ | refine o_ix1L ?_ | refine o_ix2L ?_
  | refine s_par ?_ | refine p_yes ?_ | refine p_seq ?_ | refine s_gnil ?_ | refine s_gcons ?_ | refine s_gtux ?_ | refine s_gtupl ?_ | refine p_onone ?_ | refine p_osome ?_ | refine p_get2 ?_ | refine s_putU ?_ | refine p_sortIt ?_)
local macro_rules | `(tactic| walk_at "2") => `(tactic| first
  | walk_at "1"
  | (with_reducible refine p_var2 ?_)
  | ((with_reducible refine s_name ?_ ?_); (· exact Nat.le_of_ble_eq_true rfl); dsimp only [List.set_cons_zero, List.set_cons_succ])
  | (with_reducible refine p_tup ?_) | (with_reducible refine p_lst ?_) | ((with_reducible refine ⟨?_, ?_⟩); (· exact Nat.le_of_ble_eq_true rfl))
  | ((with_reducible refine p_ex2 (x := ?_) (y := ?_) ?_ ?_); rotate_left; rotate_left; (· rfl); refine ⟨?_, ?_, ?_⟩; (· exact Nat.le_of_ble_eq_true rfl); (· exact Nat.le_of_ble_eq_true rfl); dsimp only [List.set_cons_zero, List.set_cons_succ])
  | ((with_reducible refine p_isT ?_ ?_); (· rfl)) | ((with_reducible refine p_isF ?_ ?_); (· rfl))
  | ((with_reducible refine p_ex (x := ?_) ?_ ?_); rotate_left; (· rfl)))
local macro_rules | `(tactic| walk_at "3") => `(tactic| repeat walk_at "2")
theorem rat_one (n : Int) : (n : Rat) / ((1 : Int) : Rat) = (n : Rat) := by
  have : ((1 : Int) : Rat) = 1 := rfl
  rw [this]
  grind
theorem bd_le {a b c d e : Nat} (ha : a ≤ b) (hd : d ≤ e) (hb : b * e ≤ c) : a * d ≤ c := Nat.le_trans (Nat.mul_le_mul ha hd) hb
theorem termT_len (a b : Int) (j k : Nat) : (termT a b j k).length = min j k + 1 := by unfold termT; rw [List.length_map, List.length_range]
theorem pterms_len (p r : Kind × Rat) : (pterms p r).length = min p.1.p.toNat r.1.p.toNat + 1 := by unfold pterms; rw [List.length_map, termT_len]
theorem lterms_len (p r : Kind × Rat) : (lterms p r).length = p.1.p.toNat + r.1.p.toNat + 1 := by unfold lterms; rw [List.length_map, List.length_range]
theorem prodL_len {f : Kind × Rat → Kind × Rat → List (Kind × Rat)} {one other : List (Kind × Rat)} {c : Nat} (h : ∀ p ∈ one, ∀ r ∈ other, (f p r).length ≤ c) : (prodL f one other).length ≤ one.length * (other.length * c) := by
  unfold prodL
  induction one with
  | nil => simp
  | cons p s ih =>
    rw [List.flatMap_cons, List.length_append, List.length_cons, Nat.succ_mul]
    have h1 := ih fun q hq => h q (List.mem_cons_of_mem _ hq)
    have h2 : (other.flatMap fun r => f p r).length ≤ other.length * c := by
      have hp := h p List.mem_cons_self
      clear h ih h1
      induction other with
      | nil => simp
      | cons r t ih =>
        rw [List.flatMap_cons, List.length_append, List.length_cons, Nat.succ_mul]
        have := hp r List.mem_cons_self
        have := ih fun q hq => hp q (List.mem_cons_of_mem _ hq)
        omega
    omega
/-- sizes of the terms of a product -/
theorem term_q {n k pl pk A V V' D1 D2 : Nat} {one other : List (Kind × Rat)} (h1 : Rw n pl A V D1 one) (h2 : Rw k pk A V' D2 other) (hA : 1 ≤ A) {p r : Kind × Rat} (hp : p ∈ one) (hr : r ∈ other) (i : Nat) :
    QB (V * V' * (4 * A) ^ (pl + pk)) (D1 * D2) (p.2 * r.2 * ((FT p.1.b r.1.b p.1.p.toNat r.1.p.toNat i : Int) : Rat)) := by
  have e := FT_bound (j := p.1.p.toNat) (k := r.1.p.toNat) (p := i) (h1.b p hp) (h2.b r hr) hA
  have a1 := h1.p0 p hp
  have a2 := h1.p1 p hp
  have a3 := h2.p0 r hr
  have a4 := h2.p1 r hr
  have e2 : (4 * A) ^ (p.1.p.toNat + r.1.p.toNat) ≤ (4 * A) ^ (pl + pk) := Nat.pow_le_pow_right (by omega) (by omega)
  have := qb_mul (qb_mul (h1.q p hp) (h2.q r hr)) (qb_int (Nat.le_trans e e2))
  rwa [Nat.mul_one] at this
theorem mem_prod {f : Kind × Rat → Kind × Rat → List (Kind × Rat)} {one other : List (Kind × Rat)} {x : Kind × Rat} (h : x ∈ prodL f one other) : ∃ p ∈ one, ∃ r ∈ other, x ∈ f p r := by
  unfold prodL at h
  obtain ⟨p, hp, h⟩ := List.mem_flatMap.mp h
  obtain ⟨r, hr, h⟩ := List.mem_flatMap.mp h
  exact ⟨p, hp, r, hr, h⟩
theorem mem_pterms {p r x : Kind × Rat} (h : x ∈ pterms p r) : ∃ i, i ≤ min p.1.p.toNat r.1.p.toNat ∧ x = (Kind.mk (mmul p.1.m r.1.m) ((max p.1.p.toNat r.1.p.toNat + i : Nat) : Int) (p.1.b * r.1.b), p.2 * r.2 * ((FT p.1.b r.1.b p.1.p.toNat r.1.p.toNat (max p.1.p.toNat r.1.p.toNat + i) : Int) : Rat)) := by
  unfold pterms termT at h
  rw [List.map_map] at h
  obtain ⟨i, hi, rfl⟩ := List.mem_map.mp h
  exact ⟨i, by have := List.mem_range.mp hi; omega, rfl⟩
theorem rows_all {κ : Type} [Emb κ] [DecidableEq κ] {P : κ → Prop} : ∀ {L acc : List (κ × Rat)}, (∀ p ∈ acc, P p.1) → (∀ p ∈ L, P p.1) → ∀ p ∈ addAll acc L, P p.1
  | [], _, h, _ => h
  | q :: r, acc, h, g => rows_all (L := r) (acc := addT acc q.1 q.2) (put_all h (g q List.mem_cons_self)) fun p hp => g p (List.mem_cons_of_mem _ hp)
theorem onway_end {κ : Type} [DecidableEq κ] {V D' T : Nat} (hD : 1 ≤ D') {total : List (κ × Rat)} : ∀ {rest acc : List (κ × Rat)}, OnWay V D' T total acc rest → OnWay V D' T total total []
  | [], acc, h => by
    have := h.eq
    have : acc = total := this
    subst this; exact h
  | p :: r, acc, h => onway_end hD (rest := r) (onway_step hD h)
/-- what a product tells -/
structure ProdG (n k pl pk A B T V D' : Nat) (one other : List (Kind × Rat)) : Prop where
  kinds : ∀ p ∈ prodT one other, MonO (n + k) p.1.m ∧ 0 ≤ p.1.p ∧ p.1.p ≤ pl + pk ∧ p.1.b.natAbs ≤ A * A
  len : (prodT one other).length ≤ T
  q : ∀ p ∈ prodT one other, QB (V * T) (D' ^ T) p.2
  nz : ∀ p ∈ prodT one other, p.2 ≠ 0
  inc : Inc (prodT one other)
theorem prod_ok {n k pl pk A V V' D1 D2 T : Nat} {one other : List (Kind × Rat)} (h1 : Rw n pl A V D1 one) (h2 : Rw k pk A V' D2 other) (hA : 1 ≤ A) (hD : 1 ≤ D1 * D2) (hT : (prodL pterms one other).length ≤ T) : ProdG n k pl pk A A T (V * V' * (4 * A) ^ (pl + pk)) (D1 * D2) one other := by
  have hL : ∀ x ∈ prodL pterms one other, (MonO (n + k) x.1.m ∧ 0 ≤ x.1.p ∧ x.1.p ≤ pl + pk ∧ x.1.b.natAbs ≤ A * A) ∧ QB (V * V' * (4 * A) ^ (pl + pk)) (D1 * D2) x.2 := fun x hx => by
    obtain ⟨p, hp, r, hr, hx⟩ := mem_prod hx
    obtain ⟨i, hi, rfl⟩ := mem_pterms hx
    have a2 := h1.p1 p hp
    have a4 := h2.p1 r hr
    refine ⟨⟨mmul_ok (h1.m p hp) (h2.m r hr), by show (0 : Int) ≤ ((_ : Nat) : Int); omega, by show ((max p.1.p.toNat r.1.p.toNat + i : Nat) : Int) ≤ _; omega, ?_⟩, term_q h1 h2 hA hp hr _⟩
    show (p.1.b * r.1.b).natAbs ≤ _
    rw [Int.natAbs_mul]
    exact Nat.mul_le_mul (h1.b p hp) (h2.b r hr)
  have fin := onway_end hD (onway_start hT fun x hx => (hL x hx).2)
  obtain ⟨t, t1, t2, t3⟩ := fin.ex
  have t1 : t ≤ T := by simpa using t1
  refine ⟨fun p hp => ?_, Nat.le_trans (rows_len _) (by omega), fun p hp => qb_mono (t3 p (rows_nz p hp).1) (Nat.mul_le_mul_left _ t1) (Nat.pow_le_pow_right hD t1), fun p hp => (rows_nz p hp).2, nd_rows fin.nd⟩
  exact rows_all (P := fun k' : Kind => MonO (n + k) k'.m ∧ (0 : Int) ≤ k'.p ∧ k'.p ≤ (pl : Int) + pk ∧ k'.b.natAbs ≤ A * A) (acc := []) (fun _ z => (nomatch z)) (fun x hx => (hL x hx).1) p (rows_nz p hp).1
end DL

set_option Elab.async false
set_option linter.all false
set_option maxRecDepth 100000
set_option maxHeartbeats 4000000
set_option autoImplicit false
/-! Fractions of a common number below; sums over rows. -/
namespace DL
open PySem L2
open Emb
theorem con_nd {κ : Type} [DecidableEq κ] : ∀ {L : List (κ × Rat)}, ND L → ∀ q, con L q = at0 L q
  | [], _, _ => rfl
  | p :: r, h, q => by
    obtain ⟨h1, h2⟩ := nd_tail h
    have ih := con_nd h2 q
    unfold con at ih ⊢
    rw [sumR_cons, ih, show p :: r = (p.1, p.2) :: r from rfl, at0_cons]
    by_cases z : p.1 = q
    · rw [if_pos z, if_pos z]
      subst z
      rw [at0_none h1]; grind
    · rw [if_neg z, if_neg z]; grind
/-! ### fractions of a common number below -/
def QC (V L : Nat) (q : Rat) : Prop := ∃ X : Int, q = (X : Rat) / ((L : Int) : Rat) ∧ X.natAbs ≤ V * L
theorem castL {L : Nat} (h : 1 ≤ L) : ((L : Int) : Rat) ≠ 0 := by simp; omega
theorem qc_zero (L : Nat) : QC 0 L 0 := ⟨0, by rw [show ((0 : Int) : Rat) = 0 from rfl]; grind, Nat.zero_le _⟩
theorem qc_add {V W L : Nat} {x y : Rat} (h : QC V L x) (g : QC W L y) : QC (V + W) L (x + y) := by
  obtain ⟨X, rfl, hX⟩ := h
  obtain ⟨Y, rfl, hY⟩ := g
  refine ⟨X + Y, ?_, ?_⟩
  · rw [show ((X + Y : Int) : Rat) = (X : Rat) + (Y : Rat) by push_cast; rfl]
    grind
  · rw [Nat.add_mul]; omega
theorem qc_mul {V W L M : Nat} {x y : Rat} (hL : 1 ≤ L) (hM : 1 ≤ M) (h : QC V L x) (g : QC W M y) : QC (V * W) (L * M) (x * y) := by
  obtain ⟨X, rfl, hX⟩ := h
  obtain ⟨Y, rfl, hY⟩ := g
  refine ⟨X * Y, ?_, ?_⟩
  · have h1 := castL hL
    have h2 := castL hM
    rw [show ((X * Y : Int) : Rat) = (X : Rat) * (Y : Rat) by push_cast; rfl, show (((L * M : Nat) : Int) : Rat) = ((L : Int) : Rat) * ((M : Int) : Rat) by push_cast; rfl]
    generalize ((L : Int) : Rat) = l at *
    generalize ((M : Int) : Rat) = m at *
    grind
  · rw [Int.natAbs_mul, Nat.mul_mul_mul_comm]
    exact Nat.mul_le_mul hX hY
theorem qc_int {V L : Nat} {x : Rat} {n : Int} {W : Nat} (h : QC V L x) (hn : n.natAbs ≤ W) : QC (V * W) L (x * (n : Rat)) := by
  obtain ⟨X, rfl, hX⟩ := h
  refine ⟨X * n, ?_, ?_⟩
  · rw [show ((X * n : Int) : Rat) = (X : Rat) * (n : Rat) by push_cast; rfl]
    grind
  · rw [Int.natAbs_mul, Nat.mul_right_comm]
    exact Nat.mul_le_mul hX hn
theorem qc_mono {V W L : Nat} {x : Rat} (h : QC V L x) (hv : V ≤ W) : QC W L x := by
  obtain ⟨X, rfl, hX⟩ := h
  exact ⟨X, rfl, Nat.le_trans hX (Nat.mul_le_mul_right _ hv)⟩
theorem qc_scale {V L M : Nat} {x : Rat} (hL : 1 ≤ L) (hM : 1 ≤ M) (h : QC V L x) : QC V (L * M) x := by
  obtain ⟨X, rfl, hX⟩ := h
  refine ⟨X * M, ?_, ?_⟩
  · have h1 := castL hL
    have h2 := castL hM
    rw [show ((X * (M : Int) : Int) : Rat) = (X : Rat) * ((M : Int) : Rat) by push_cast; rfl, show (((L * M : Nat) : Int) : Rat) = ((L : Int) : Rat) * ((M : Int) : Rat) by push_cast; rfl]
    generalize ((L : Int) : Rat) = l at *
    generalize ((M : Int) : Rat) = m at *
    grind
  · rw [Int.natAbs_mul, ← Nat.mul_assoc]
    exact Nat.mul_le_mul_right _ hX
theorem qc_rb {V L : Nat} {x : Rat} (hV : 1 ≤ V) (hL : 1 ≤ L) (h : QC V L x) : RB' (V * L) x := by
  obtain ⟨X, rfl, hX⟩ := h
  exact rb_of (by omega) hX (by show L ≤ V * L; exact Nat.le_mul_of_pos_left _ hV)
theorem qc_self {V : Nat} {x : Rat} (h : x.num.natAbs ≤ V) : QC V x.den x := ⟨x.num, by
  have := rat_nd x
  rw [show (((x.den : Nat) : Int) : Rat) = ((x.den : Nat) : Rat) by push_cast; rfl]
  exact this.symm, Nat.le_trans h (Nat.le_mul_of_pos_right _ x.den_pos)⟩
/-- the product of the numbers below -/
def dens {κ : Type} (rows : List (κ × Rat)) : Nat := (rows.map fun p => p.2.den).foldr (· * ·) 1
theorem dens_pos {κ : Type} : ∀ rows : List (κ × Rat), 1 ≤ dens rows
  | [] => Nat.le_refl _
  | p :: r => Nat.mul_pos p.2.den_pos (dens_pos r)
theorem dens_le {κ : Type} {D' : Nat} (hD : 1 ≤ D') : ∀ {rows : List (κ × Rat)} {n : Nat}, (∀ p ∈ rows, p.2.den ≤ D') → rows.length ≤ n → dens rows ≤ D' ^ n
  | [], n, _, _ => Nat.one_le_pow _ _ hD
  | p :: r, n, h, hn => by
    obtain ⟨m, rfl⟩ : ∃ m, n = m + 1 := ⟨n - 1, by rw [List.length_cons] at hn; omega⟩
    have ih := dens_le hD (rows := r) (n := m) (fun q hq => h q (List.mem_cons_of_mem _ hq)) (by rw [List.length_cons] at hn; omega)
    rw [Nat.pow_succ, Nat.mul_comm]
    exact Nat.mul_le_mul (h p List.mem_cons_self) ih
theorem qc_dens {κ : Type} {V : Nat} : ∀ {rows : List (κ × Rat)}, (∀ p ∈ rows, p.2.num.natAbs ≤ V) → ∀ p ∈ rows, QC V (dens rows) p.2
  | q :: r, h, p, hp => by
    rcases List.mem_cons.mp hp with rfl | hp
    · exact qc_scale p.2.den_pos (dens_pos r) (qc_self (h p List.mem_cons_self))
    · have := qc_scale (dens_pos r) q.2.den_pos (qc_dens (fun x hx => h x (List.mem_cons_of_mem _ hx)) p hp)
      rwa [Nat.mul_comm] at this
/-- additions on the way, of a common number below -/
structure OnC {κ : Type} [DecidableEq κ] (V L T : Nat) (total acc rest : List (κ × Rat)) : Prop where
  eq : addAll acc rest = total
  nd : ND acc
  ex : ∃ t, t + rest.length ≤ T ∧ acc.length ≤ t ∧ ∀ p ∈ acc, QC (V * t) L p.2
  rest : ∀ p ∈ rest, QC V L p.2
section
variable {κ : Type} [DecidableEq κ] {V L T : Nat}
theorem onc_start {K : List (κ × Rat)} (hl : K.length ≤ T) (h : ∀ p ∈ K, QC V L p.2) : OnC V L T (addAll [] K) [] K := ⟨rfl, List.nodup_nil, ⟨0, by omega, Nat.le_refl _, fun _ z => nomatch z⟩, h⟩
theorem onc_step {total acc rest : List (κ × Rat)} {p : κ × Rat} (h : OnC V L T total acc (p :: rest)) : OnC V L T total (addT acc p.1 p.2) rest := by
  obtain ⟨t, h1, h2, h3⟩ := h.ex
  have hp := h.rest p List.mem_cons_self
  refine ⟨h.eq, nd_add h.nd _ _, ⟨t + 1, by rw [List.length_cons] at h1; omega, Nat.le_trans (put_len _ _ _) (by omega), ?_⟩, fun q hq => h.rest q (List.mem_cons_of_mem _ hq)⟩
  refine put_all (fun q hq => qc_mono (h3 q hq) (Nat.mul_le_mul_left _ (Nat.le_succ _))) ?_
  show QC (V * (t + 1)) L ((getT acc p.1).getD 0 + p.2)
  rw [Nat.mul_add, Nat.mul_one]
  refine qc_add ?_ hp
  cases e : getT acc p.1 with
  | none => exact qc_mono (qc_zero L) (Nat.zero_le _)
  | some w => exact h3 _ (getT_mem e)
theorem onc_end {total : List (κ × Rat)} : ∀ {rest acc : List (κ × Rat)}, OnC V L T total acc rest → OnC V L T total total []
  | [], acc, h => by
    have : acc = total := h.eq
    subst this; exact h
  | p :: r, acc, h => onc_end (rest := r) (onc_step h)
theorem onc_qc {total acc rest : List (κ × Rat)} (h : OnC V L T total acc rest) : ∀ p ∈ acc, QC (V * T) L p.2 := fun p hp => by
  obtain ⟨t, h1, h2, h3⟩ := h.ex
  exact qc_mono (h3 p hp) (Nat.mul_le_mul_left V (show t ≤ T by omega))
variable [Emb κ] [KeyE κ]
theorem add_one {m : Mir} (hm : Adds κ m) {S : Sto} {u : D} {total acc rest : List (κ × Rat)} {k : κ} {q : Rat} (hS : Sane S) (hu : IsDic u acc) (h : OnC V L T total acc ((k, q) :: rest)) (hV : 1 ≤ V) (hL : 1 ≤ L) (hT : 1 ≤ T) (hT2 : T ≤ 100000) (hB : V * T * L ≤ 2 ^ 4000) :
    ∃ u', m [.ptr S.length, toD k, toD q] (S ++ [u]) = .ok .non (S ++ [u']) ∧ IsDic u' (addT acc k q) ∧ OnC V L T total (addT acc k q) rest := by
  have sl : 200000 ≤ sizeLine := by decide
  obtain ⟨t, h1, h2, h3⟩ := h.ex
  have hVT : 1 ≤ V * T := Nat.mul_pos hV hT
  obtain ⟨u', e', hu'⟩ := hm (sane_app hS (isDic_closed hu _)) hu (get_app (S := S)) (by rw [List.length_cons] at h1; omega) k q hB (fun p hp => qc_rb hVT hL (onc_qc h p hp)) (rb_mono (qc_rb hV hL (h.rest _ List.mem_cons_self)) (Nat.mul_le_mul_right _ (Nat.le_mul_of_pos_right _ hT)))
  rw [set_app] at e'
  exact ⟨u', e', hu', onc_step h⟩
end
/-! ### what is put together of rows -/
section
variable {κ : Type} [DecidableEq κ]
def lin (g : κ → Rat) (rows : List (κ × Rat)) : Rat := sumR rows fun p => p.2 * g p.1
theorem sumR_perm {α : Type} {a b : List α} (h : a.Perm b) (f : α → Rat) : sumR a f = sumR b f := by
  induction h with
  | nil => rfl
  | cons x _ ih => rw [sumR_cons, sumR_cons, ih]
  | swap x y l => rw [sumR_cons, sumR_cons, sumR_cons, sumR_cons]; grind
  | trans _ _ h1 h2 => exact h1.trans h2
theorem lin_app (g : κ → Rat) (a b : List (κ × Rat)) : lin g (a ++ b) = lin g a + lin g b := sumR_app a b _
theorem lin_cons (g : κ → Rat) (p : κ × Rat) (r : List (κ × Rat)) : lin g (p :: r) = p.2 * g p.1 + lin g r := sumR_cons p r _
theorem lin_repl (g : κ → Rat) {kvs : List (κ × Rat)} (hn : ND kvs) {k : κ} {v w : Rat} (h : getT kvs k = some w) : lin g (replT kvs k v) = lin g kvs + (v - w) * g k := by
  induction kvs with
  | nil => cases h
  | cons p r ih =>
    obtain ⟨k', v'⟩ := p
    obtain ⟨h1, h2⟩ := nd_tail hn
    rw [getT_cons] at h
    show lin g (if k' = k then (k', v) :: replT r k v else (k', v') :: replT r k v) = _
    by_cases e : k' = k
    · subst e
      rw [if_pos rfl] at h ⊢
      cases h
      have : replT r k' v = r := by
        clear ih hn h2
        induction r with
        | nil => rfl
        | cons q s ih =>
          obtain ⟨k2, v2⟩ := q
          rw [List.map_cons, List.mem_cons, not_or] at h1
          show (if k2 = k' then _ else (k2, v2) :: replT s k' v) = _
          rw [if_neg (Ne.symm h1.1), ih h1.2]
      rw [this, lin_cons, lin_cons]
      grind
    · rw [if_neg e] at h ⊢
      rw [lin_cons, lin_cons, ih h2 h]
      grind
theorem lin_addT (g : κ → Rat) {kvs : List (κ × Rat)} (hn : ND kvs) (k : κ) (q : Rat) : lin g (addT kvs k q) = lin g kvs + q * g k := by
  unfold addT putT
  cases e : getT kvs k with
  | some w =>
    rw [if_pos (show (some w).isSome = true from rfl), lin_repl g hn e]
    show _ + (w + q - w) * g k = _
    grind
  | none =>
    rw [if_neg (show ¬ (none : Option Rat).isSome = true by decide), lin_app, lin_cons]
    show _ + ((0 + q) * g k + 0) = _
    grind
theorem lin_addAll (g : κ → Rat) : ∀ (K : List (κ × Rat)) {acc : List (κ × Rat)}, ND acc → lin g (addAll acc K) = lin g acc + lin g K
  | [], acc, _ => by show lin g acc = lin g acc + 0; grind
  | p :: r, acc, h => by
    show lin g (addAll (addT acc p.1 p.2) r) = _
    rw [lin_addAll g r (nd_add h _ _), lin_addT g h, lin_cons]
    grind
theorem lin_con (K : List (κ × Rat)) (q : κ) : con K q = lin (fun k => if k = q then 1 else 0) K := by
  unfold con lin
  refine sumR_congr fun p _ => ?_
  split <;> grind
theorem lin_congr {g h : κ → Rat} {rows : List (κ × Rat)} (e : ∀ p ∈ rows, g p.1 = h p.1) : lin g rows = lin h rows := sumR_congr fun p hp => by rw [e p hp]
theorem lin_flat {α : Type} (g : κ → Rat) (xs : List α) (f : α → List (κ × Rat)) : lin g (xs.flatMap f) = sumR xs fun x => lin g (f x) := sumR_flat xs f _
variable [Emb κ]
theorem lin_rows (g : κ → Rat) (kvs : List (κ × Rat)) : lin g (rowsT kvs) = lin g kvs := by
  unfold rowsT lin
  rw [sumR_perm (srt_perm _)]
  induction kvs with
  | nil => rfl
  | cons p r ih =>
    rw [List.filter_cons, sumR_cons, ← ih]
    cases e : fz p with
    | true => rw [if_pos rfl, sumR_cons]
    | false =>
      rw [if_neg Bool.false_ne_true]
      have : p.2 = 0 := by unfold fz at e; simpa using e
      rw [this]; grind
theorem at0_lin {kvs : List (κ × Rat)} (h : ND kvs) (q : κ) : at0 kvs q = lin (fun k => if k = q then 1 else 0) kvs := by rw [← lin_con, con_nd h]
theorem lin_tot (g : κ → Rat) (K : List (κ × Rat)) : lin g (rowsT (addAll [] K)) = lin g K := by
  have nd0 : ND ([] : List (κ × Rat)) := List.nodup_nil
  rw [lin_rows, lin_addAll g K nd0]
  show 0 + _ = _
  grind
theorem at0_tot (K : List (κ × Rat)) (q : κ) : at0 (rowsT (addAll [] K)) q = con K q := by
  have nd0 : ND ([] : List (κ × Rat)) := List.nodup_nil
  rw [at0_rows (nd_addAll _ _ nd0), at0_addAll]
  show 0 + _ = _
  grind
theorem tot_one {K M : List (κ × Rat)} (h : ∀ q, con K q = con M q) : rowsT (addAll [] K) = rowsT (addAll [] M) := by
  have nd0 : ND ([] : List (κ × Rat)) := List.nodup_nil
  exact rows_ext (nd_addAll _ _ nd0) (nd_addAll _ _ nd0) fun q => by rw [at0_addAll, at0_addAll, h]
end
end DL

set_option Elab.async false
set_option linter.all false
set_option maxRecDepth 100000
set_option maxHeartbeats 4000000
set_option autoImplicit false
/-! Moved on, at a count: plain. -/
namespace DL
open PySem L2
open Emb
/-! ### moved on by one -/
def mov1 (k : Kind) : List (Kind × Rat) := (k, (k.b : Rat)) :: (if 0 < k.p then [(Kind.mk k.m (k.p - 1) k.b, 1)] else [])
def movP (p : Kind × Rat) : List (Kind × Rat) := (p.1, p.2 * (p.1.b : Rat)) :: (if 0 < p.1.p then [(Kind.mk p.1.m (p.1.p - 1) p.1.b, p.2)] else [])
def movL (rows : List (Kind × Rat)) : List (Kind × Rat) := rows.flatMap movP
def movT (rows : List (Kind × Rat)) : List (Kind × Rat) := rowsT (addAll [] (movL rows))
theorem lin_movP (g : Kind → Rat) (p : Kind × Rat) : lin g (movP p) = p.2 * lin g (mov1 p.1) := by
  unfold movP mov1
  rw [lin_cons, lin_cons]
  split
  · rw [lin_cons, lin_cons]
    show _ + (_ + 0) = _ * (_ + (_ + 0))
    dsimp only
    grind
  · show _ + 0 = _ * (_ + 0)
    grind
theorem lin_movL (g : Kind → Rat) (rows : List (Kind × Rat)) : lin g (movL rows) = lin (fun k => lin g (mov1 k)) rows := by
  unfold movL
  rw [lin_flat]
  exact sumR_congr fun p _ => lin_movP g p
theorem lin_movT (g : Kind → Rat) (rows : List (Kind × Rat)) : lin g (movT rows) = lin (fun k => lin g (mov1 k)) rows := by
  unfold movT
  rw [lin_tot, lin_movL]
/-! ### at a count -/
def tv (p : Nat) (b : Int) (n : Nat) : Int := if p ≤ n then ((bin n p : Nat) : Int) * b ^ (n - p) else 0
theorem tv_zero (b : Int) (n : Nat) : tv 0 b (n + 1) = b * tv 0 b n := by
  unfold tv
  rw [if_pos (Nat.zero_le _), if_pos (Nat.zero_le _), bin_zero, bin_zero, Nat.sub_zero, Nat.sub_zero, Int.pow_succ]
  grind
theorem tv_succ (p : Nat) (b : Int) (n : Nat) : tv (p + 1) b (n + 1) = b * tv (p + 1) b n + tv p b n := by
  unfold tv
  by_cases h : p ≤ n
  · rw [if_pos (by omega), if_pos h]
    have e : bin (n + 1) (p + 1) = bin n p + bin n (p + 1) := rfl
    rw [show n + 1 - (p + 1) = n - p by omega, e]
    by_cases h2 : p + 1 ≤ n
    · rw [if_pos h2, show n - p = n - (p + 1) + 1 by omega, Int.pow_succ]
      push_cast
      grind
    · rw [if_neg h2, bin_gt (show n < p + 1 by omega)]
      push_cast
      grind
  · rw [if_neg (by omega), if_neg (by omega), if_neg h]
    simp
def tK (k : Kind) (n : Nat) : Int := tv k.p.toNat k.b n
def atL (rows : List (Kind × Rat)) (n : Nat) : List (Mono × Rat) := rows.map fun p => (p.1.m, p.2 * ((tK p.1 n : Int) : Rat))
def atT (rows : List (Kind × Rat)) (n : Nat) : List (Mono × Rat) := rowsT (addAll [] (atL rows n))
def atG (m : Mono) (n : Nat) (k : Kind) : Rat := if k.m = m then ((tK k n : Int) : Rat) else 0
theorem con_at (rows : List (Kind × Rat)) (n : Nat) (m : Mono) : con (atL rows n) m = lin (atG m n) rows := by
  unfold con atL lin atG
  rw [sumR_map]
  refine sumR_congr fun p _ => ?_
  dsimp only
  split <;> grind
theorem atG_mov {k : Kind} (h : 0 ≤ k.p) (m : Mono) (n : Nat) : lin (atG m n) (mov1 k) = atG m (n + 1) k := by
  unfold mov1
  rw [lin_cons]
  unfold atG tK
  by_cases hm : k.m = m
  · rw [if_pos hm, if_pos hm]
    by_cases hp : 0 < k.p
    · rw [if_pos hp, lin_cons]
      obtain ⟨p, hp'⟩ : ∃ p : Nat, k.p = (p : Int) + 1 := ⟨(k.p - 1).toNat, by omega⟩
      rw [show k.p.toNat = p + 1 by omega, tv_succ]
      dsimp only
      rw [if_pos hm, show (k.p - 1).toNat = p by omega]
      show _ + (1 * _ + 0) = _
      push_cast
      grind
    · rw [if_neg hp, show k.p.toNat = 0 by omega, tv_zero]
      show _ + 0 = _
      push_cast
      grind
  · rw [if_neg hm, if_neg hm]
    split
    · rw [lin_cons]
      dsimp only
      rw [if_neg hm]
      show _ * 0 + (1 * 0 + 0) = _
      grind
    · show _ * 0 + 0 = _
      grind
theorem at_moved {rows : List (Kind × Rat)} (h : ∀ p ∈ rows, 0 ≤ p.1.p) (n : Nat) : atT (movT rows) n = atT rows (n + 1) := by
  unfold atT
  refine tot_one fun m => ?_
  rw [con_at, con_at, lin_movT]
  exact lin_congr fun p hp => atG_mov (h p hp) m n
/-! ### products moved on -/
def one1 (k : Kind) : Kind × Rat := (k, 1)
theorem range_ind (f : Nat → Rat) (x : Nat) : ∀ n : Nat, (sumR (List.range n) fun i => if i = x then f i else 0) = if x < n then f x else 0
  | 0 => by rw [if_neg (Nat.not_lt_zero _)]; rfl
  | n + 1 => by
    rw [List.range_succ, sumR_app, range_ind f x n, sumR_cons]
    show _ + (_ + 0) = _
    by_cases h : n = x
    · subst h
      rw [if_neg (Nat.lt_irrefl _), if_pos rfl, if_pos (Nat.lt_succ_self _)]; grind
    · rw [if_neg h]
      by_cases h2 : x < n
      · rw [if_pos h2, if_pos (by omega)]; grind
      · rw [if_neg h2, if_neg (by omega)]; grind
/-- how often the kind q is in the product of two kinds -/
def cK (j k q : Kind) : Rat := if q.m = mmul j.m k.m ∧ q.b = j.b * k.b ∧ 0 ≤ q.p then ((FT j.b k.b j.p.toNat k.p.toNat q.p.toNat : Int) : Rat) else 0
theorem con_terms (p r : Kind × Rat) (q : Kind) : con (pterms p r) q = p.2 * r.2 * cK p.1 r.1 q := by
  rw [← con_lterms]
  unfold con lterms cK
  rw [sumR_map]
  dsimp only
  by_cases h : q.m = mmul p.1.m r.1.m ∧ q.b = p.1.b * r.1.b ∧ 0 ≤ q.p
  · rw [if_pos h]
    obtain ⟨h1, h2, h3⟩ := h
    have e : (sumR (List.range (p.1.p.toNat + r.1.p.toNat + 1)) fun i => if Kind.mk (mmul p.1.m r.1.m) (i : Int) (p.1.b * r.1.b) = q then p.2 * r.2 * ((FT p.1.b r.1.b p.1.p.toNat r.1.p.toNat i : Int) : Rat) else 0) = sumR (List.range (p.1.p.toNat + r.1.p.toNat + 1)) fun i => if i = q.p.toNat then p.2 * r.2 * ((FT p.1.b r.1.b p.1.p.toNat r.1.p.toNat i : Int) : Rat) else 0 := by
      refine sumR_congr fun i _ => ?_
      by_cases z : i = q.p.toNat
      · rw [if_pos z, if_pos (by
          obtain ⟨qm, qp, qb⟩ := q
          simp only [Kind.mk.injEq]
          dsimp only at h1 h2 h3 z
          exact ⟨h1.symm, by omega, h2.symm⟩)]
      · rw [if_neg z, if_neg fun y => z (by rw [← y]; show i = ((i : Int)).toNat; omega)]
    rw [e, range_ind]
    split
    · rfl
    · rename_i hh
      rw [FT_high (by omega)]
      rw [show ((0 : Int) : Rat) = 0 from rfl]; grind
  · rw [if_neg h]
    rw [sumR_zero fun i _ => if_neg fun y => h (by rw [← y]; exact ⟨rfl, rfl, by show (0 : Int) ≤ ((i : Nat) : Int); omega⟩)]
    grind
theorem con_prod2 (A B : List (Kind × Rat)) (q : Kind) : con (prodL pterms A B) q = lin (fun j => lin (fun k => cK j k q) B) A := by
  rw [con_prod]
  unfold lin
  refine sumR_congr fun p _ => ?_
  rw [← sumR_mul]
  refine sumR_congr fun r _ => ?_
  rw [con_terms]
  grind
def eK (q k : Kind) : Rat := lin (fun k' => if k' = q then 1 else 0) (mov1 k)
theorem eK_eq (q k : Kind) (hk : 0 ≤ k.p) : eK q k = (if k = q then (k.b : Rat) else 0) + if k = Kind.mk q.m (q.p + 1) q.b ∧ 0 ≤ q.p then 1 else 0 := by
  unfold eK mov1
  rw [lin_cons]
  congr 1
  · dsimp only
    split <;> grind
  · by_cases h : 0 < k.p
    · rw [if_pos h, lin_cons]
      show 1 * _ + 0 = _
      dsimp only
      by_cases z : k = Kind.mk q.m (q.p + 1) q.b ∧ 0 ≤ q.p
      · rw [if_pos z, if_pos (by
          rw [z.1]
          obtain ⟨qm, qp, qb⟩ := q
          simp only [Kind.mk.injEq, true_and, and_true]
          omega)]
        grind
      · rw [if_neg z, if_neg (fun y => z (by
          rw [← y]
          obtain ⟨km, kp, kb⟩ := k
          dsimp only at h ⊢
          simp only [Kind.mk.injEq, true_and, and_true]
          omega))]
        grind
    · rw [if_neg h, if_neg (fun z => h (by rw [z.1]; show 0 < q.p + 1; omega))]
      rfl
/-- the kinds of a product, moved on, are those of both moved on -/
theorem mov_terms {j k q : Kind} (hj : 0 ≤ j.p) (hk : 0 ≤ k.p) : lin (eK q) (pterms (one1 j) (one1 k)) = lin (fun j' => lin (fun k' => cK j' k' q) (mov1 k)) (mov1 j) := by
  have hl : lin (eK q) (pterms (one1 j) (one1 k)) = ((j.b * k.b : Int) : Rat) * cK j k q + (if 0 ≤ q.p then cK j k (Kind.mk q.m (q.p + 1) q.b) else 0) := by
    have e1 : lin (eK q) (pterms (one1 j) (one1 k)) = lin (fun k' => (if k' = q then ((j.b * k.b : Int) : Rat) else 0) + if k' = Kind.mk q.m (q.p + 1) q.b ∧ 0 ≤ q.p then 1 else 0) (pterms (one1 j) (one1 k)) := by
      refine lin_congr fun x hx => ?_
      obtain ⟨i, _, rfl⟩ := mem_pterms hx
      rw [eK_eq _ _ (show (0 : Int) ≤ ((_ : Nat) : Int) by omega)]
      rfl
    rw [e1]
    have e2 : ∀ (f g : Kind → Rat) (rows : List (Kind × Rat)), lin (fun k => f k + g k) rows = lin f rows + lin g rows := fun f g rows => by
      unfold lin
      rw [← sumR_add]
      exact sumR_congr fun p _ => by grind
    rw [e2]
    congr 1
    · have : lin (fun k' => if k' = q then ((j.b * k.b : Int) : Rat) else 0) (pterms (one1 j) (one1 k)) = ((j.b * k.b : Int) : Rat) * con (pterms (one1 j) (one1 k)) q := by
        rw [lin_con]
        unfold lin
        rw [← sumR_mul]
        refine sumR_congr fun p _ => ?_
        dsimp only
        split <;> grind
      rw [this, con_terms]
      show _ * (1 * 1 * _) = _
      show ((j.b * k.b : Int) : Rat) * (1 * 1 * cK j k q) = _
      grind
    · by_cases z : 0 ≤ q.p
      · rw [if_pos z]
        have : lin (fun k' => if k' = Kind.mk q.m (q.p + 1) q.b ∧ 0 ≤ q.p then 1 else 0) (pterms (one1 j) (one1 k)) = con (pterms (one1 j) (one1 k)) (Kind.mk q.m (q.p + 1) q.b) := by
          rw [lin_con]
          refine sumR_congr fun p _ => ?_
          dsimp only
          by_cases y : p.1 = Kind.mk q.m (q.p + 1) q.b
          · rw [if_pos ⟨y, z⟩, if_pos y]
          · rw [if_neg (fun x => y x.1), if_neg y]
        rw [this, con_terms]
        show 1 * 1 * cK j k _ = _
        grind
      · rw [if_neg z]
        exact sumR_zero fun p _ => by dsimp only; rw [if_neg (fun x => z x.2)]; grind
  have lin1 : ∀ (f : Kind → Rat) (x : Kind), lin f (mov1 x) = (x.b : Rat) * f x + if 0 < x.p then f (Kind.mk x.m (x.p - 1) x.b) else 0 := fun f x => by
    unfold mov1
    rw [lin_cons]
    congr 1
    split
    · rw [lin_cons]
      show 1 * _ + 0 = _
      dsimp only
      grind
    · rfl
  rw [hl, lin1, lin1]
  have cc : ∀ j' k' : Kind, j'.m = j.m → j'.b = j.b → k'.m = k.m → k'.b = k.b → cK j' k' q = if q.m = mmul j.m k.m ∧ q.b = j.b * k.b ∧ 0 ≤ q.p then ((FT j.b k.b j'.p.toNat k'.p.toNat q.p.toNat : Int) : Rat) else 0 := fun j' k' a1 a2 a3 a4 => by
    unfold cK
    rw [a1, a2, a3, a4]
  rw [cc j k rfl rfl rfl rfl]
  by_cases h : q.m = mmul j.m k.m ∧ q.b = j.b * k.b ∧ 0 ≤ q.p
  · obtain ⟨h1, h2, h3⟩ := h
    rw [if_pos ⟨h1, h2, h3⟩, if_pos h3]
    obtain ⟨J, hJ⟩ : ∃ J : Nat, j.p = J := ⟨j.p.toNat, by omega⟩
    obtain ⟨K', hK⟩ : ∃ K' : Nat, k.p = K' := ⟨k.p.toNat, by omega⟩
    obtain ⟨x, hx⟩ : ∃ x : Nat, q.p = x := ⟨q.p.toNat, by omega⟩
    have c1 : cK j k (Kind.mk q.m (q.p + 1) q.b) = ((FT j.b k.b J K' (x + 1) : Int) : Rat) := by
      unfold cK
      rw [if_pos (by exact ⟨h1, h2, by show 0 ≤ q.p + 1; omega⟩), show j.p.toNat = J by omega, show k.p.toNat = K' by omega, show (Kind.mk q.m (q.p + 1) q.b).p.toNat = x + 1 by show (q.p + 1).toNat = _; omega]
    have st : FT j.b k.b J K' (x + 1) = j.b * FTl j.b k.b J K' x + k.b * FTr j.b k.b J K' x + FTb j.b k.b J K' x := by
      by_cases hlt : x < J + K'
      · exact FT_step _ _ hlt
      · rw [FT_high (by omega)]
        unfold FTl FTr FTb
        have z1 : (if K' = 0 then (0 : Int) else FT j.b k.b J (K' - 1) x) = 0 := by split; (· rfl); (· exact FT_high (by omega))
        have z2 : (if J = 0 then (0 : Int) else FT j.b k.b (J - 1) K' x) = 0 := by split; (· rfl); (· exact FT_high (by omega))
        have z3 : (if J = 0 ∨ K' = 0 then (0 : Int) else FT j.b k.b (J - 1) (K' - 1) x) = 0 := by split; (· rfl); (· exact FT_high (by omega))
        rw [z1, z2, z3]; simp
    rw [c1, st]
    have l1 : (if 0 < k.p then cK j (Kind.mk k.m (k.p - 1) k.b) q else 0) = ((FTl j.b k.b J K' x : Int) : Rat) := by
      unfold FTl
      by_cases z : K' = 0
      · rw [if_neg (by omega), if_pos z]; rfl
      · rw [if_pos (by omega), if_neg z, cc j (Kind.mk k.m (k.p - 1) k.b) rfl rfl rfl rfl, if_pos ⟨h1, h2, h3⟩, show j.p.toNat = J by omega, show q.p.toNat = x by omega]
        show ((FT j.b k.b J (k.p - 1).toNat x : Int) : Rat) = _
        rw [show (k.p - 1).toNat = K' - 1 by omega]
    have l2 : (if 0 < j.p then lin (fun k' => cK (Kind.mk j.m (j.p - 1) j.b) k' q) (mov1 k) else 0) = (k.b : Rat) * ((FTr j.b k.b J K' x : Int) : Rat) + ((FTb j.b k.b J K' x : Int) : Rat) := by
      unfold FTr FTb
      by_cases z : J = 0
      · rw [if_neg (by omega), if_pos z, if_pos (.inl z)]
        rw [show ((0 : Int) : Rat) = 0 from rfl]; grind
      · rw [if_pos (by omega), if_neg z, lin1, cc (Kind.mk j.m (j.p - 1) j.b) k rfl rfl rfl rfl, if_pos ⟨h1, h2, h3⟩]
        show _ * ((FT j.b k.b (j.p - 1).toNat k.p.toNat q.p.toNat : Int) : Rat) + _ = _
        rw [show (j.p - 1).toNat = J - 1 by omega, show k.p.toNat = K' by omega, show q.p.toNat = x by omega]
        congr 1
        by_cases y : K' = 0
        · rw [if_neg (by omega), if_pos (.inr y)]; rfl
        · rw [if_pos (by omega), if_neg (by omega), cc (Kind.mk j.m (j.p - 1) j.b) (Kind.mk k.m (k.p - 1) k.b) rfl rfl rfl rfl, if_pos ⟨h1, h2, h3⟩]
          show ((FT j.b k.b (j.p - 1).toNat (k.p - 1).toNat q.p.toNat : Int) : Rat) = _
          rw [show (j.p - 1).toNat = J - 1 by omega, show (k.p - 1).toNat = K' - 1 by omega, show q.p.toNat = x by omega]
    rw [l1, l2, show j.p.toNat = J by omega, show k.p.toNat = K' by omega, show q.p.toNat = x by omega]
    push_cast
    grind
  · have z0 : ∀ j' k' : Kind, j'.m = j.m → j'.b = j.b → k'.m = k.m → k'.b = k.b → cK j' k' q = 0 := fun j' k' a1 a2 a3 a4 => by rw [cc j' k' a1 a2 a3 a4, if_neg h]
    rw [if_neg h]
    have c1 : (if 0 ≤ q.p then cK j k (Kind.mk q.m (q.p + 1) q.b) else 0) = 0 := by
      split
      · rename_i y
        unfold cK
        rw [if_neg fun z => h ⟨z.1, z.2.1, y⟩]
      · rfl
    rw [c1]
    have l1 : (if 0 < k.p then cK j (Kind.mk k.m (k.p - 1) k.b) q else 0) = 0 := by
      split
      · exact z0 _ _ rfl rfl rfl rfl
      · rfl
    have l2 : (if 0 < j.p then lin (fun k' => cK (Kind.mk j.m (j.p - 1) j.b) k' q) (mov1 k) else 0) = 0 := by
      split
      · rw [lin1, z0 (Kind.mk j.m (j.p - 1) j.b) k rfl rfl rfl rfl]
        have : (if 0 < k.p then cK (Kind.mk j.m (j.p - 1) j.b) (Kind.mk k.m (k.p - 1) k.b) q else 0) = 0 := by
          split
          · exact z0 _ _ rfl rfl rfl rfl
          · rfl
        rw [this]; grind
      · rfl
    rw [l1, l2]; grind
theorem lin_swap {α : Type} (M : List (Kind × Rat)) (B : List α) (f : Kind → α → Rat) : lin (fun j => sumR B fun r => f j r) M = sumR B fun r => lin (fun j => f j r) M := by
  unfold lin
  rw [← sumR_swap]
  refine sumR_congr fun p _ => ?_
  dsimp only
  rw [← sumR_mul]
theorem lin_scale (M : List (Kind × Rat)) (c : Rat) (f : Kind → Rat) : lin (fun j => c * f j) M = c * lin f M := by
  unfold lin
  rw [← sumR_mul]
  exact sumR_congr fun p _ => by dsimp only; grind
theorem lin_pterms (g : Kind → Rat) (p r : Kind × Rat) : lin g (pterms p r) = p.2 * r.2 * lin g (pterms (one1 p.1) (one1 r.1)) := by
  unfold pterms lin
  rw [sumR_map, sumR_map, ← sumR_mul]
  refine sumR_congr fun t _ => ?_
  unfold one1
  dsimp only
  grind
theorem mov_prod {A B : List (Kind × Rat)} (hA : ∀ p ∈ A, 0 ≤ p.1.p) (hB : ∀ p ∈ B, 0 ≤ p.1.p) : movT (prodT A B) = prodT (movT A) (movT B) := by
  have e : ∀ q, con (movL (prodT A B)) q = con (prodL pterms (movT A) (movT B)) q := fun q => by
    rw [lin_con, lin_movL, con_prod2]
    show lin (eK q) (prodT A B) = _
    have hr : (fun j' => lin (fun k => cK j' k q) (movT B)) = fun j' => sumR B fun r => r.2 * lin (fun k' => cK j' k' q) (mov1 r.1) := funext fun j' => by
      rw [lin_movT]; rfl
    rw [hr, lin_movT]
    unfold prodT
    rw [lin_tot]
    unfold prodL
    rw [lin_flat]
    show _ = sumR A fun p => p.2 * lin (fun j' => sumR B fun r => r.2 * lin (fun k' => cK j' k' q) (mov1 r.1)) (mov1 p.1)
    refine sumR_congr fun p hp => ?_
    rw [lin_flat, lin_swap, ← sumR_mul]
    refine sumR_congr fun r hr => ?_
    rw [lin_pterms, mov_terms (hA p hp) (hB r hr), lin_scale]
    grind
  unfold movT
  rw [tot_one e]
  rfl
theorem mov_sum {A B : List (Kind × Rat)} (nA : ND A) (nB : ND B) (mA : ND (movT A)) (mB : ND (movT B)) : movT (rowsT (sumT A B)) = rowsT (sumT (movT A) (movT B)) := by
  have nd0 : ND ([] : List (Kind × Rat)) := List.nodup_nil
  refine rows_ext (nd_addAll _ _ nd0) (nd_sum mA) fun q => ?_
  rw [at0_addAll, at0_sum mA mB]
  show 0 + con (movL (rowsT (sumT A B))) q = _
  have sl : ∀ (g : Kind → Rat), lin g (sumT A B) = lin g A + lin g B := fun g => by
    unfold sumT
    rw [merge_id nA]
    exact lin_addAll g B nA
  rw [lin_con, lin_movL, lin_rows, sl, at0_lin mA, at0_lin mB, lin_movT, lin_movT]
  grind
end DL

set_option Elab.async false
set_option linter.all false
set_option maxRecDepth 100000
set_option maxHeartbeats 4000000
set_option autoImplicit false
/-! What forms are worth: sums and products of forms, plain. -/
namespace DL
open PySem L2
open Emb
theorem lin_ext {κ : Type} [Emb κ] [DecidableEq κ] {K M : List (κ × Rat)} (h : ∀ q, con K q = con M q) (g : κ → Rat) : lin g K = lin g M := by
  rw [← lin_tot g K, ← lin_tot g M, tot_one h]
theorem lin_prod (g : Kind → Rat) (A B : List (Kind × Rat)) : lin g (prodL pterms A B) = lin (fun j => lin (fun k => lin g (pterms (one1 j) (one1 k))) B) A := by
  unfold prodL
  rw [lin_flat]
  show _ = sumR A fun p => p.2 * lin (fun k => lin g (pterms (one1 p.1) (one1 k))) B
  refine sumR_congr fun p _ => ?_
  rw [lin_flat]
  show _ = p.2 * sumR B fun r => r.2 * lin g (pterms (one1 p.1) (one1 r.1))
  rw [← sumR_mul]
  refine sumR_congr fun r _ => ?_
  rw [lin_pterms]
  grind
theorem lin_lin {α β : Type} (A : List (α × Rat)) (C : List (β × Rat)) (f : α → β → Rat) : lin (fun x => lin (fun l => f x l) C) A = lin (fun l => lin (fun x => f x l) A) C := by
  unfold lin
  have e1 : (sumR A fun p => p.2 * sumR C fun r => r.2 * f p.1 r.1) = sumR A fun p => sumR C fun r => p.2 * (r.2 * f p.1 r.1) := sumR_congr fun p _ => by rw [← sumR_mul]
  have e2 : (sumR C fun r => r.2 * sumR A fun p => p.2 * f p.1 r.1) = sumR C fun r => sumR A fun p => p.2 * (r.2 * f p.1 r.1) := sumR_congr fun r _ => by
    rw [← sumR_mul]
    exact sumR_congr fun p _ => by grind
  rw [e1, e2, sumR_swap]
theorem lin_one {α : Type} (a : α) (f : α → Rat) : lin f [(a, 1)] = f a := by
  show 1 * f a + 0 = f a
  grind
theorem pterms_kinds {p r x : Kind × Rat} (h : x ∈ pterms p r) : x.1.m = mmul p.1.m r.1.m ∧ x.1.b = p.1.b * r.1.b ∧ 0 ≤ x.1.p := by
  obtain ⟨i, _, e⟩ := mem_pterms h
  subst e
  exact ⟨rfl, rfl, by show (0 : Int) ≤ ((max p.1.p.toNat r.1.p.toNat + i : Nat) : Int); omega⟩
theorem tv_nought (p : Nat) (b : Int) : tv p b 0 = if p = 0 then 1 else 0 := by
  unfold tv
  by_cases h : p = 0
  · subst h; rw [if_pos (Nat.le_refl _), if_pos rfl, Nat.sub_self, Int.pow_zero]; rfl
  · rw [if_neg (by omega), if_neg h]
theorem tv_self (n : Nat) (b : Int) : tv n b n = 1 := by
  unfold tv
  rw [if_pos (Nat.le_refl _), bin_self, Nat.sub_self, Int.pow_zero]
  rfl
theorem tv_above {p n : Nat} (h : n < p) (b : Int) : tv p b n = 0 := by unfold tv; rw [if_neg (by omega)]
/-- what a kind is worth at a count, but for its boxes -/
def kW (n : Nat) (k : Kind) : Rat := ((tK k n : Int) : Rat)
theorem kW_step {k : Kind} (h : 0 ≤ k.p) (n : Nat) : lin (kW n) (mov1 k) = kW (n + 1) k := by
  have e := atG_mov h k.m n
  have e2 : atG k.m (n + 1) k = kW (n + 1) k := by unfold atG; rw [if_pos rfl]; rfl
  rw [← e2, ← e]
  refine lin_congr fun p hp => ?_
  unfold mov1 at hp
  have hm : p.1.m = k.m := by
    rcases List.mem_cons.mp hp with z | z
    · rw [z]
    · split at z
      · rw [List.mem_singleton.mp z]
      · cases z
  unfold atG
  rw [if_pos hm]
  rfl
theorem mov1_p {k : Kind} (h : 0 ≤ k.p) : ∀ p ∈ mov1 k, 0 ≤ p.1.p := fun p hp => by
  unfold mov1 at hp
  rcases List.mem_cons.mp hp with z | z
  · rw [z]; exact h
  · split at z
    · rw [List.mem_singleton.mp z]; show 0 ≤ k.p - 1; omega
    · cases z
theorem kW_terms : ∀ (n : Nat) {j k : Kind}, 0 ≤ j.p → 0 ≤ k.p → lin (kW n) (pterms (one1 j) (one1 k)) = kW n j * kW n k
  | 0, j, k, hj, hk => by
    rw [← lin_ext (con_lterms (one1 j) (one1 k)) (kW 0)]
    unfold lin lterms
    rw [sumR_map]
    have e : (sumR (List.range ((one1 j).1.p.toNat + (one1 k).1.p.toNat + 1)) fun i => (1 : Rat) * 1 * ((FT j.b k.b j.p.toNat k.p.toNat i : Int) : Rat) * kW 0 (Kind.mk (mmul j.m k.m) (i : Int) (j.b * k.b))) = sumR (List.range ((one1 j).1.p.toNat + (one1 k).1.p.toNat + 1)) fun i => if i = 0 then ((FT j.b k.b j.p.toNat k.p.toNat i : Int) : Rat) else 0 := sumR_congr fun i _ => by
      unfold kW tK
      dsimp only
      rw [show ((i : Nat) : Int).toNat = i by omega, tv_nought]
      split
      · rw [show ((1 : Int) : Rat) = 1 from rfl]; grind
      · rw [show ((0 : Int) : Rat) = 0 from rfl]; grind
    show (sumR (List.range ((one1 j).1.p.toNat + (one1 k).1.p.toNat + 1)) fun i => (1 : Rat) * 1 * ((FT j.b k.b j.p.toNat k.p.toNat i : Int) : Rat) * kW 0 (Kind.mk (mmul j.m k.m) (i : Int) (j.b * k.b))) = _
    rw [e, range_ind, if_pos (by omega), FT_zero]
    unfold kW tK
    rw [tv_nought, tv_nought]
    by_cases a : j.p.toNat = 0
    · by_cases b : k.p.toNat = 0
      · rw [if_pos a, if_pos b, if_pos (by omega)]; rw [show ((1 : Int) : Rat) = 1 from rfl]; grind
      · rw [if_pos a, if_neg b, if_neg (by omega)]; rw [show ((1 : Int) : Rat) = 1 from rfl, show ((0 : Int) : Rat) = 0 from rfl]; grind
    · rw [if_neg a, if_neg (show ¬ j.p.toNat + k.p.toNat = 0 by omega)]; rw [show ((0 : Int) : Rat) = 0 from rfl]; grind
  | n + 1, j, k, hj, hk => by
    have e1 : lin (kW (n + 1)) (pterms (one1 j) (one1 k)) = lin (fun q => lin (kW n) (mov1 q)) (pterms (one1 j) (one1 k)) := lin_congr fun p hp => (kW_step (pterms_kinds hp).2.2 n).symm
    have e2 : ∀ q, con (movL (pterms (one1 j) (one1 k))) q = con (prodL pterms (mov1 j) (mov1 k)) q := fun q => by
      rw [lin_con, lin_movL, con_prod2]
      exact mov_terms hj hk
    rw [e1, ← lin_movL, lin_ext e2, lin_prod]
    have e3 : lin (fun a => lin (fun b => lin (kW n) (pterms (one1 a) (one1 b))) (mov1 k)) (mov1 j) = lin (fun a => lin (kW n) (mov1 k) * kW n a) (mov1 j) := lin_congr fun p hp => by
      have e4 : lin (fun b => lin (kW n) (pterms (one1 p.1) (one1 b))) (mov1 k) = lin (fun b => kW n p.1 * kW n b) (mov1 k) := lin_congr fun r hr => kW_terms n (mov1_p hj p hp) (mov1_p hk r hr)
      rw [e4, lin_scale]
      grind
    rw [e3, lin_scale, kW_step hj, kW_step hk]
    grind
/-! ### with boxes -/
def gW (w : Mono → Rat) (n : Nat) (k : Kind) : Rat := kW n k * w k.m
theorem gW_terms (w : Mono → Rat) (n : Nat) {j k : Kind} (hj : 0 ≤ j.p) (hk : 0 ≤ k.p) : lin (gW w n) (pterms (one1 j) (one1 k)) = kW n j * kW n k * w (mmul j.m k.m) := by
  have e : lin (gW w n) (pterms (one1 j) (one1 k)) = lin (fun q => w (mmul j.m k.m) * kW n q) (pterms (one1 j) (one1 k)) := lin_congr fun p hp => by
    unfold gW
    rw [(pterms_kinds hp).1]
    show kW n p.1 * w (mmul j.m k.m) = _
    grind
  rw [e, lin_scale, kW_terms n hj hk]
  grind
theorem gW_prod (w : Mono → Rat) (n : Nat) {A B : List (Kind × Rat)} (hA : ∀ p ∈ A, 0 ≤ p.1.p) (hB : ∀ p ∈ B, 0 ≤ p.1.p) (hw : ∀ p ∈ A, ∀ r ∈ B, w (mmul p.1.m r.1.m) = w p.1.m * w r.1.m) : lin (gW w n) (prodT A B) = lin (gW w n) A * lin (gW w n) B := by
  unfold prodT
  rw [lin_tot, lin_prod]
  have e : lin (fun j => lin (fun k => lin (gW w n) (pterms (one1 j) (one1 k))) B) A = lin (fun j => lin (gW w n) B * gW w n j) A := lin_congr fun p hp => by
    have e2 : lin (fun k => lin (gW w n) (pterms (one1 p.1) (one1 k))) B = lin (fun k => gW w n p.1 * gW w n k) B := lin_congr fun r hr => by
      rw [gW_terms w n (hA p hp) (hB r hr), hw p hp r hr]
      unfold gW
      grind
    rw [e2, lin_scale]
    grind
  rw [e, lin_scale]
  grind
/-! ### what a form is worth tells its rows -/
theorem lin_places {M : Mono} {B : Int} : ∀ {K : List (Kind × Rat)}, (∀ x ∈ K, x.1.m = M ∧ x.1.b = B ∧ 0 ≤ x.1.p) → ∀ n, lin (kW n) K = sumR (List.range (n + 1)) fun i => con K (Kind.mk M (i : Int) B) * ((tv i B n : Int) : Rat)
  | [], _, n => by
    rw [sumR_zero fun i _ => by show (0 : Rat) * _ = 0; grind]
    rfl
  | x :: K, h, n => by
    rw [lin_cons, lin_places (fun y hy => h y (List.mem_cons_of_mem _ hy)) n]
    obtain ⟨h1, h2, h3⟩ := h x (List.mem_cons_self ..)
    have e : (sumR (List.range (n + 1)) fun i => con (x :: K) (Kind.mk M (i : Int) B) * ((tv i B n : Int) : Rat)) = sumR (List.range (n + 1)) fun i => (if i = x.1.p.toNat then x.2 * ((tv i B n : Int) : Rat) else 0) + con K (Kind.mk M (i : Int) B) * ((tv i B n : Int) : Rat) := sumR_congr fun i _ => by
      have : con (x :: K) (Kind.mk M (i : Int) B) = (if x.1 = Kind.mk M (i : Int) B then x.2 else 0) + con K (Kind.mk M (i : Int) B) := sumR_cons ..
      rw [this]
      by_cases z : i = x.1.p.toNat
      · rw [if_pos z, if_pos (by
          obtain ⟨⟨xm, xp, xb⟩, xr⟩ := x
          simp only [Kind.mk.injEq]
          dsimp only at h1 h2 h3 z
          exact ⟨h1, by omega, h2⟩)]
        grind
      · rw [if_neg z, if_neg fun y => z (by rw [y]; show i = ((i : Int)).toNat; omega)]
        grind
    rw [e, sumR_add, range_ind]
    have e5 : kW n x.1 = ((tv x.1.p.toNat B n : Int) : Rat) := by unfold kW tK; rw [h2]
    rw [e5]
    split
    · rfl
    · rename_i hh
      rw [tv_above (by omega)]
      rw [show ((0 : Int) : Rat) = 0 from rfl]; grind
theorem con_of_worth {M : Mono} {B : Int} {K K' : List (Kind × Rat)} (h : ∀ x ∈ K, x.1.m = M ∧ x.1.b = B ∧ 0 ≤ x.1.p) (h' : ∀ x ∈ K', x.1.m = M ∧ x.1.b = B ∧ 0 ≤ x.1.p) (e : ∀ n, lin (kW n) K = lin (kW n) K') (q : Kind) : con K q = con K' q := by
  have main : ∀ n : Nat, con K (Kind.mk M (n : Int) B) = con K' (Kind.mk M (n : Int) B) := fun n => by
    induction n using Nat.strongRecOn with
    | ind n ih =>
      have en := e n
      rw [lin_places h n, lin_places h' n, List.range_succ, sumR_app, sumR_app] at en
      have el : (sumR (List.range n) fun i => con K (Kind.mk M (i : Int) B) * ((tv i B n : Int) : Rat)) = sumR (List.range n) fun i => con K' (Kind.mk M (i : Int) B) * ((tv i B n : Int) : Rat) := sumR_congr fun i hi => by rw [ih i (List.mem_range.mp hi)]
      rw [el, sumR_cons, sumR_cons, tv_self, sumR_nil, sumR_nil, show ((1 : Int) : Rat) = 1 from rfl] at en
      grind
  have none' : ∀ {K : List (Kind × Rat)}, (∀ x ∈ K, x.1.m = M ∧ x.1.b = B ∧ 0 ≤ x.1.p) → ¬ (q.m = M ∧ q.b = B ∧ 0 ≤ q.p) → con K q = 0 := fun hK hq => sumR_zero fun x hx => if_neg fun y : x.1 = q => hq (by rw [← y]; exact hK x hx)
  by_cases hq : q.m = M ∧ q.b = B ∧ 0 ≤ q.p
  · obtain ⟨q1, q2, q3⟩ := hq
    have : q = Kind.mk M (q.p.toNat : Int) B := by
      obtain ⟨qm, qp, qb⟩ := q
      simp only [Kind.mk.injEq]
      dsimp only at q1 q2 q3
      exact ⟨q1, by omega, q2⟩
    rw [this]
    exact main _
  · rw [none' h hq, none' h' hq]
/-! ### products of three -/
theorem mmul_three {n k l : Nat} {a b c : Mono} (ha : MonO n a) (hb : MonO k b) (hc : MonO l c) : mmul (mmul a b) c = mmul a (mmul c b) :=
  mono_one (mmul_ok (mmul_ok ha hb) hc) (mmul_ok ha (mmul_ok hc hb)) fun q => by
    rw [at0I_mmul (mmul_ok ha hb) hc, at0I_mmul ha hb, at0I_mmul ha (mmul_ok hc hb), at0I_mmul hc hb]
    omega
theorem prodL_kinds {A B : List (Kind × Rat)} {M N : Mono} {b c : Int} (hA : ∀ x ∈ A, x.1.m = M ∧ x.1.b = b ∧ 0 ≤ x.1.p) (hB : ∀ x ∈ B, x.1.m = N ∧ x.1.b = c ∧ 0 ≤ x.1.p) : ∀ x ∈ prodL pterms A B, x.1.m = mmul M N ∧ x.1.b = b * c ∧ 0 ≤ x.1.p := fun x hx => by
  obtain ⟨p, hp, r, hr, hm⟩ := mem_prod hx
  obtain ⟨a1, a2, a3⟩ := pterms_kinds hm
  rw [(hA p hp).1, (hB r hr).1] at a1
  rw [(hA p hp).2.1, (hB r hr).2.1] at a2
  exact ⟨a1, a2, a3⟩
theorem kW_prodL (n : Nat) {A B : List (Kind × Rat)} (hA : ∀ p ∈ A, 0 ≤ p.1.p) (hB : ∀ p ∈ B, 0 ≤ p.1.p) : lin (kW n) (prodL pterms A B) = lin (kW n) A * lin (kW n) B := by
  rw [lin_prod]
  have e : lin (fun j => lin (fun k => lin (kW n) (pterms (one1 j) (one1 k))) B) A = lin (fun j => lin (kW n) B * kW n j) A := lin_congr fun p hp => by
    have e2 : lin (fun k => lin (kW n) (pterms (one1 p.1) (one1 k))) B = lin (fun k => kW n p.1 * kW n k) B := lin_congr fun r hr => kW_terms n (hA p hp) (hB r hr)
    rw [e2, lin_scale]
    grind
  rw [e, lin_scale]
  grind
theorem three {n k l : Nat} {a b c : Kind} (ha : MonO n a.m) (hb : MonO k b.m) (hc : MonO l c.m) (pa : 0 ≤ a.p) (pb : 0 ≤ b.p) (pc : 0 ≤ c.p) (q : Kind) : lin (fun x => cK x c q) (pterms (one1 a) (one1 b)) = lin (fun y => cK a y q) (pterms (one1 c) (one1 b)) := by
  have o1 : ∀ (k : Kind), 0 ≤ k.p → ∀ x ∈ [one1 k], x.1.m = k.m ∧ x.1.b = k.b ∧ 0 ≤ x.1.p := fun k hk x hx => by rw [List.mem_singleton.mp hx]; exact ⟨rfl, rfl, hk⟩
  have hL := prodL_kinds (A := pterms (one1 a) (one1 b)) (B := [one1 c]) (fun x hx => pterms_kinds hx) (o1 c pc)
  have hR := prodL_kinds (A := [one1 a]) (B := pterms (one1 c) (one1 b)) (o1 a pa) (fun x hx => pterms_kinds hx)
  have em : mmul a.m (mmul c.m b.m) = mmul (mmul a.m b.m) c.m := (mmul_three ha hb hc).symm
  have eb : a.b * (c.b * b.b) = a.b * b.b * c.b := by grind
  have h := con_of_worth (K := prodL pterms (pterms (one1 a) (one1 b)) [one1 c]) (K' := prodL pterms [one1 a] (pterms (one1 c) (one1 b))) (M := mmul (mmul a.m b.m) c.m) (B := a.b * b.b * c.b) hL (fun x hx => by
    obtain ⟨z1, z2, z3⟩ := hR x hx
    exact ⟨z1.trans em, z2.trans eb, z3⟩) (fun n => by
    rw [kW_prodL n (fun x hx => (pterms_kinds hx).2.2) (fun x hx => (o1 c pc x hx).2.2), kW_prodL n (fun x hx => (o1 a pa x hx).2.2) (fun x hx => (pterms_kinds hx).2.2), kW_terms n pa pb, kW_terms n pc pb]
    unfold one1
    rw [lin_one, lin_one]
    grind) q
  rw [con_prod2, con_prod2] at h
  unfold one1 at h ⊢
  rw [lin_one] at h
  rw [← h]
  refine lin_congr fun p _ => ?_
  rw [lin_one]
theorem prod_three {n k l : Nat} {A B C : List (Kind × Rat)} (hA : ∀ p ∈ A, MonO n p.1.m ∧ 0 ≤ p.1.p) (hB : ∀ p ∈ B, MonO k p.1.m ∧ 0 ≤ p.1.p) (hC : ∀ p ∈ C, MonO l p.1.m ∧ 0 ≤ p.1.p) : prodT (prodT A B) C = prodT A (prodT C B) := by
  refine tot_one fun q => ?_
  rw [con_prod2, con_prod2]
  have eL : lin (fun x => lin (fun c => cK x c q) C) (prodT A B) = lin (fun a => lin (fun b => lin (fun x => lin (fun c => cK x c q) C) (pterms (one1 a) (one1 b))) B) A := by
    unfold prodT
    rw [lin_tot, lin_prod]
  rw [eL]
  refine lin_congr fun a ha => ?_
  have eR : lin (fun y => cK a.1 y q) (prodT C B) = lin (fun c => lin (fun b => lin (fun y => cK a.1 y q) (pterms (one1 c) (one1 b))) B) C := by
    unfold prodT
    rw [lin_tot, lin_prod]
  rw [eR, lin_lin C B]
  refine lin_congr fun b hb => ?_
  rw [lin_lin]
  exact lin_congr fun c hc => three (hA a ha).1 (hB b hb).1 (hC c hc).1 (hA a ha).2 (hB b hb).2 (hC c hc).2 q
end DL

set_option Elab.async false
set_option linter.all false
set_option maxRecDepth 100000
set_option maxHeartbeats 4000000
set_option autoImplicit false
/-! What products of boxes are worth, plain. -/
namespace DL
open PySem L2
open Emb
def valOf (vals : List (Str × Int)) (x : Str) : Int := (getT vals x).getD 0
def mv (vals : List (Str × Int)) : Mono → Int
  | [] => 1
  | p :: r => valOf vals p.1 ^ p.2.toNat * mv vals r
variable {vals : List (Str × Int)}
theorem mv_cons (p : Str × Int) (r : Mono) : mv vals (p :: r) = valOf vals p.1 ^ p.2.toNat * mv vals r := rfl
theorem mv_perm {a b : Mono} (h : a.Perm b) : mv vals a = mv vals b := by
  induction h with
  | nil => rfl
  | cons x _ ih => rw [mv_cons, mv_cons, ih]
  | swap x y l => rw [mv_cons, mv_cons, mv_cons, mv_cons, Int.mul_left_comm]
  | trans _ _ h1 h2 => exact h1.trans h2
theorem mv_app : ∀ a b : Mono, mv vals (a ++ b) = mv vals a * mv vals b
  | [], b => by show mv vals b = 1 * mv vals b; omega
  | p :: a, b => by rw [List.cons_append, mv_cons, mv_cons, mv_app a b, Int.mul_assoc]
theorem mv_repl {m : Mono} (hn : ND m) {k : Str} {v w : Int} (h : getT m k = some w) (hw : 0 ≤ w) (hv : 0 ≤ v) : mv vals (replT m k (w + v)) = mv vals m * valOf vals k ^ v.toNat := by
  induction m with
  | nil => cases h
  | cons p r ih =>
    obtain ⟨k', v'⟩ := p
    have hn2 := hn
    unfold ND at hn2
    rw [List.map_cons, List.nodup_cons] at hn2
    obtain ⟨h1, h2⟩ := hn2
    rw [getT_cons] at h
    show mv vals (if k' = k then (k', w + v) :: replT r k (w + v) else (k', v') :: replT r k (w + v)) = _
    by_cases e : k' = k
    · subst e
      rw [if_pos rfl] at h ⊢
      cases h
      have : replT r k' (w + v) = r := by
        clear ih hn h2
        induction r with
        | nil => rfl
        | cons q s ih =>
          obtain ⟨k2, v2⟩ := q
          rw [List.map_cons, List.mem_cons, not_or] at h1
          show (if k2 = k' then _ else (k2, v2) :: replT s k' (w + v)) = _
          rw [if_neg (Ne.symm h1.1), ih h1.2]
      rw [this, mv_cons, mv_cons]
      show valOf vals k' ^ (w + v).toNat * _ = valOf vals k' ^ w.toNat * _ * _
      rw [show (w + v).toNat = w.toNat + v.toNat by omega, Int.pow_add]
      grind
    · rw [if_neg e] at h ⊢
      rw [mv_cons, mv_cons, ih h2 h]
      grind
theorem mv_addI {m : Mono} (hn : ND m) (hp : ∀ p ∈ m, nice p.1 = true ∧ 1 ≤ p.2) {k : Str} {v : Int} (hv : 0 ≤ v) : mv vals (addI m k v) = mv vals m * valOf vals k ^ v.toNat := by
  unfold addI putT
  cases e : getT m k with
  | some w =>
    rw [if_pos (show (some w).isSome = true from rfl)]
    have := (hp _ (getT_mem e)).2
    exact mv_repl hn e (by show 0 ≤ w; have : 1 ≤ w := this; omega) hv
  | none =>
    rw [if_neg (show ¬ (none : Option Int).isSome = true by decide), mv_app]
    show _ * (valOf vals k ^ (0 + v).toNat * 1) = _
    rw [Int.mul_one, Int.zero_add]
theorem mv_fold : ∀ (other acc : Mono), ND acc → (∀ p ∈ acc, nice p.1 = true ∧ 1 ≤ p.2) → (∀ p ∈ other, nice p.1 = true ∧ 1 ≤ p.2) → mv vals (other.foldl (fun acc p => addI acc p.1 p.2) acc) = mv vals acc * mv vals other
  | [], acc, _, _, _ => by show _ = _ * 1; rw [Int.mul_one]; rfl
  | p :: r, acc, h1, h2, h3 => by
    have hp := h3 p List.mem_cons_self
    rw [List.foldl_cons, mv_fold r (addI acc p.1 p.2) (nd_put h1 _ _) (put_all h2 ⟨hp.1, by
      show 1 ≤ (getT acc p.1).getD 0 + p.2
      cases e : getT acc p.1 with
      | none => show 1 ≤ 0 + p.2; omega
      | some w => have := (h2 _ (getT_mem e)).2; show 1 ≤ w + p.2; have := hp.2; omega⟩) fun q hq => h3 q (List.mem_cons_of_mem _ hq)]
    rw [mv_addI h1 h2 (by omega), mv_cons, Int.mul_assoc]
theorem mv_mmul {n k : Nat} {a b : Mono} (ha : MonO n a) (hb : MonO k b) : mv vals (mmul a b) = mv vals a * mv vals b := by
  have na := inc_nd ha.inc
  unfold mmul mfold
  rw [mv_perm (srt_perm _), merge_id na, mv_fold b a na ha.nc hb.nc]
theorem mv_bound {B : Nat} (hB : 1 ≤ B) (hv : ∀ x, (valOf vals x).natAbs ≤ B) : ∀ {m : Mono}, (∀ p ∈ m, nice p.1 = true ∧ 1 ≤ p.2) → (mv vals m).natAbs ≤ B ^ (degT m).toNat
  | [], _ => by show (1 : Int).natAbs ≤ B ^ (0 : Int).toNat; exact Nat.le_refl _
  | p :: r, h => by
    have ih := mv_bound hB hv (m := r) fun q hq => h q (List.mem_cons_of_mem _ hq)
    have hp := (h p List.mem_cons_self).2
    have hr := deg_pos (m := r) fun q hq => h q (List.mem_cons_of_mem _ hq)
    have e : degT (p :: r) = p.2 + degT r := by unfold degT; rw [List.map_cons, List.sum_cons]
    rw [mv_cons, Int.natAbs_mul, Int.natAbs_pow, e, show (p.2 + degT r).toNat = p.2.toNat + (degT r).toNat by have := hr.1; omega, Nat.pow_add]
    exact Nat.mul_le_mul (Nat.pow_le_pow_left (hv _) _) ih
theorem mv_bound2 {B n : Nat} (hB : 1 ≤ B) (hv : ∀ x, (valOf vals x).natAbs ≤ B) {m : Mono} (h : MonO n m) : (mv vals m).natAbs ≤ B ^ n := Nat.le_trans (mv_bound hB hv h.nc) (Nat.pow_le_pow_right hB (by have := h.dg; omega))
def mvR (vals : List (Str × Int)) (m : Mono) : Rat := ((mv vals m : Int) : Rat)
theorem mvR_mmul {n k : Nat} {a b : Mono} (ha : MonO n a) (hb : MonO k b) : mvR vals (mmul a b) = mvR vals a * mvR vals b := by
  unfold mvR
  rw [mv_mmul ha hb]
  push_cast
  rfl
/-- what a form is worth -/
def worth (vals : List (Str × Int)) (rows : List (Kind × Rat)) (n : Nat) : Rat := lin (mvR vals) (atT rows n)
theorem worth_lin (rows : List (Kind × Rat)) (n : Nat) : worth vals rows n = lin (gW (mvR vals) n) rows := by
  unfold worth atT atL
  rw [lin_tot]
  unfold lin
  rw [sumR_map]
  refine sumR_congr fun p _ => ?_
  unfold gW kW
  dsimp only
  grind
theorem worth_prod {n k : Nat} {A B : List (Kind × Rat)} (hA : ∀ p ∈ A, MonO n p.1.m ∧ 0 ≤ p.1.p) (hB : ∀ p ∈ B, MonO k p.1.m ∧ 0 ≤ p.1.p) (c : Nat) : worth vals (prodT A B) c = worth vals A c * worth vals B c := by
  rw [worth_lin, worth_lin, worth_lin]
  exact gW_prod (mvR vals) c (fun p hp => (hA p hp).2) (fun p hp => (hB p hp).2) fun p hp r hr => mvR_mmul (hA p hp).1 (hB r hr).1
/-! ### sums -/
theorem lin_sumT {κ : Type} [Emb κ] [DecidableEq κ] (g : κ → Rat) {A B : List (κ × Rat)} (nA : ND A) : lin g (rowsT (sumT A B)) = lin g A + lin g B := by
  rw [lin_rows]
  show lin g (addAll (mergeT [] A) B) = _
  rw [merge_id nA, lin_addAll g B nA]
theorem worth_sum {A B : List (Kind × Rat)} (nA : ND A) (c : Nat) : worth vals (rowsT (sumT A B)) c = worth vals A c + worth vals B c := by
  rw [worth_lin, worth_lin, worth_lin, lin_sumT _ nA]
theorem nd_prodT (A B : List (Kind × Rat)) : ND (prodT A B) := inc_nd (nd_rows (nd_addAll _ _ List.nodup_nil))
theorem at0_prodT (A B : List (Kind × Rat)) (q : Kind) : at0 (prodT A B) q = lin (fun j => lin (fun k => cK j k q) B) A := by
  unfold prodT
  rw [at0_tot, con_prod2]
theorem prod_dist {n k l : Nat} {A B C : List (Kind × Rat)} (hA : ∀ p ∈ A, MonO n p.1.m) (hB : ∀ p ∈ B, MonO k p.1.m) (hC : ∀ p ∈ C, MonO l p.1.m) (nB : ND B) : prodT A (rowsT (sumT B C)) = rowsT (sumT (prodT C A) (prodT B A)) := by
  show rowsT _ = _
  refine rows_ext (nd_addAll _ _ List.nodup_nil) (nd_sum (nd_prodT _ _)) fun q => ?_
  rw [at0_sum (nd_prodT _ _) (nd_prodT _ _), prodT_sym hC hA, prodT_sym hB hA, at0_prodT, at0_prodT, ← at0_rows (nd_addAll _ _ (show ND ([] : List (Kind × Rat)) from List.nodup_nil))]
  show at0 (prodT A (rowsT (sumT B C))) q = _
  rw [at0_prodT]
  have e : lin (fun j => lin (fun k => cK j k q) (rowsT (sumT B C))) A = lin (fun j => lin (fun k => cK j k q) B + lin (fun k => cK j k q) C) A := lin_congr fun p _ => lin_sumT _ nB
  rw [e]
  unfold lin
  rw [← sumR_add]
  exact sumR_congr fun p _ => by grind
theorem nd_rsum {κ : Type} [Emb κ] [DecidableEq κ] {A B : List (κ × Rat)} (nA : ND A) : ND (rowsT (sumT A B)) := inc_nd (nd_rows (nd_sum nA))
theorem sum_three {A B C : List (Kind × Rat)} (nA : ND A) (nB : ND B) (nC : ND C) : rowsT (sumT (rowsT (sumT A B)) C) = rowsT (sumT B (rowsT (sumT C A))) := by
  refine rows_ext (nd_sum (nd_rsum nA)) (nd_sum nB) fun q => ?_
  rw [at0_sum (nd_rsum nA) nC, at0_rows (nd_sum nA), at0_sum nA nB, at0_sum nB (nd_rsum nC), at0_rows (nd_sum nC), at0_sum nC nA]
  grind
theorem rows_none {κ : Type} [Emb κ] [DecidableEq κ] {A : List (κ × Rat)} (nA : ND A) (h : ∀ q, at0 A q = 0) : rowsT A = [] := (rows_ext (b := []) nA List.nodup_nil h).trans (List.eq_nil_of_length_eq_zero (Nat.le_zero.mp (rows_len [])))
theorem nd_scaled {A : List (Kind × Rat)} (nA : ND A) (c : Rat) : ND (A.map fun p => (p.1, c * p.2)) := by
  unfold ND at *
  rw [List.map_map]
  exact nA
theorem at0_scaled (c : Rat) (q : Kind) : ∀ (A : List (Kind × Rat)), at0 (A.map fun p => (p.1, c * p.2)) q = c * at0 A q
  | [] => by show (0 : Rat) = c * 0; grind
  | p :: r => by
    have ih := at0_scaled c q r
    unfold at0 at ih ⊢
    rw [List.map_cons, getT_cons]
    obtain ⟨k, v⟩ := p
    rw [getT_cons]
    dsimp only
    split
    · rfl
    · exact ih
theorem sum_less {A : List (Kind × Rat)} (nA : ND A) : rowsT (sumT A (rowsT (A.map fun p => (p.1, (-1 : Rat) * p.2)))) = [] := by
  have n2 := nd_scaled nA (-1)
  refine rows_none (nd_sum nA) fun q => ?_
  rw [at0_sum nA (inc_nd (nd_rows n2)), at0_rows n2, at0_scaled]
  grind
theorem scale_none {A : List (Kind × Rat)} (nA : ND A) : rowsT (A.map fun p => (p.1, (0 : Rat) * p.2)) = [] := rows_none (nd_scaled nA 0) fun q => by rw [at0_scaled]; grind
theorem prod_none (A : List (Kind × Rat)) : prodT A [] = [] := by
  show rowsT _ = _
  refine rows_none (nd_addAll _ _ (show ND ([] : List (Kind × Rat)) from List.nodup_nil)) fun q => ?_
  rw [← at0_rows (nd_addAll _ _ (show ND ([] : List (Kind × Rat)) from List.nodup_nil))]
  show at0 (prodT A []) q = 0
  rw [at0_prodT]
  exact sumR_zero fun p _ => by show p.2 * 0 = 0; grind
end DL

set_option Elab.async false
set_option linter.all false
set_option maxRecDepth 100000
set_option maxHeartbeats 4000000
set_option autoImplicit false
/-! Products of forms, a common number below. -/
namespace DL
open PySem L2
open Emb
local macro_rules | `(tactic| walk_at "1") => `(tactic| with_reducible first
  | refine s_seq ?_ | refine s_asg ?_ | refine s_ret ?_ | refine s_if ?_ | refine s_expr ?_ | refine s_next ?_ | refine s_brk ?_ | refine s_cont ?_ | refine s_for ?_ | refine s_while ?_
  | refine p_c ?_ | refine p_bin ?_ | refine p_as ?_ | refine p_cons ?_ | refine p_nil ?_ | refine p_un ?_ | refine p_call ?_ | refine p_if ?_ | refine p_own ?_
  | refine p_keep ?_ | refine p_tru ?_ | refine p_and ?_ | refine p_or ?_ | refine p_not ?_ | refine p_val ?_ | refine p_rand ?_ | refine p_ror ?_ | refine p_rnot ?_ | refine p_chain ?_ | refine p_bif ?_
  | refine o_add ?_ | refine o_sub ?_ | refine o_ltU ?_ | refine o_leU ?_ | refine o_gtU ?_ | refine o_geU ?_ | refine o_neg ?_ | refine o_eqI ?_ | refine o_neI ?_ | refine o_abs ?_ | refine o_tru ?_ | refine p_true ?_ | refine p_false ?_
  | refine o_lenT ?_ | refine o_lenL ?_ | refine o_ix0 ?_ | refine o_ix1 ?_ | refine o_ix2 ?_ | refine o_ix0L ?_ | refine o_ix1L ?_ | refine o_ix2L ?_
  | refine s_par ?_ | refine p_yes ?_ | refine p_seq ?_ | refine s_gnil ?_ | refine s_gcons ?_ | refine s_gtux ?_ | refine s_gtupl ?_ | refine p_onone ?_ | refine p_osome ?_ | refine p_get2 ?_ | refine s_putU ?_ | refine p_sortIt ?_)
local macro_rules | `(tactic| walk_at "2") => `(tactic| first
  | walk_at "1"
  | (with_reducible refine p_var2 ?_)
  | ((with_reducible refine s_name ?_ ?_); (· exact Nat.le_of_ble_eq_true rfl); dsimp only [List.set_cons_zero, List.set_cons_succ])
  | (with_reducible refine p_tup ?_) | (with_reducible refine p_lst ?_) | ((with_reducible refine ⟨?_, ?_⟩); (· exact Nat.le_of_ble_eq_true rfl))
  | ((with_reducible refine p_ex2 (x := ?_) (y := ?_) ?_ ?_); rotate_left; rotate_left; (· rfl); refine ⟨?_, ?_, ?_⟩; (· exact Nat.le_of_ble_eq_true rfl); (· exact Nat.le_of_ble_eq_true rfl); dsimp only [List.set_cons_zero, List.set_cons_succ])
  | ((with_reducible refine p_isT ?_ ?_); (· rfl)) | ((with_reducible refine p_isF ?_ ?_); (· rfl))
  | ((with_reducible refine p_ex (x := ?_) ?_ ?_); rotate_left; (· rfl)))
local macro_rules | `(tactic| walk_at "3") => `(tactic| repeat walk_at "2")
/-- rows of bounded kinds, fractions of a common number below -/
structure Rc (n pl A V L : Nat) (rows : List (Kind × Rat)) : Prop where
  m : ∀ p ∈ rows, MonO n p.1.m
  p0 : ∀ p ∈ rows, 0 ≤ p.1.p
  p1 : ∀ p ∈ rows, p.1.p ≤ pl
  b : ∀ p ∈ rows, p.1.b.natAbs ≤ A
  q : ∀ p ∈ rows, QC V L p.2
theorem term_c {n k pl pk A V V' D1 D2 : Nat} {one other : List (Kind × Rat)} (h1 : Rc n pl A V D1 one) (h2 : Rc k pk A V' D2 other) (hA : 1 ≤ A) (hD : 1 ≤ D1 * D2) {p r : Kind × Rat} (hp : p ∈ one) (hr : r ∈ other) (i : Nat) :
    QC (V * V' * (4 * A) ^ (pl + pk)) (D1 * D2) (p.2 * r.2 * ((FT p.1.b r.1.b p.1.p.toNat r.1.p.toNat i : Int) : Rat)) := by
  have d1 : 1 ≤ D1 := by rcases Nat.eq_zero_or_pos D1 with z | z; (· rw [z, Nat.zero_mul] at hD; omega); (· exact z)
  have d2 : 1 ≤ D2 := by rcases Nat.eq_zero_or_pos D2 with z | z; (· rw [z, Nat.mul_zero] at hD; omega); (· exact z)
  have e := FT_bound (j := p.1.p.toNat) (k := r.1.p.toNat) (p := i) (h1.b p hp) (h2.b r hr) hA
  have a1 := h1.p0 p hp
  have a2 := h1.p1 p hp
  have a3 := h2.p0 r hr
  have a4 := h2.p1 r hr
  have e2 : (4 * A) ^ (p.1.p.toNat + r.1.p.toNat) ≤ (4 * A) ^ (pl + pk) := Nat.pow_le_pow_right (by omega) (by omega)
  exact qc_int (qc_mul d1 d2 (h1.q p hp) (h2.q r hr)) (Nat.le_trans e e2)
/-- what a product tells -/
structure ProdC (n k pl pk A T V L : Nat) (one other : List (Kind × Rat)) : Prop where
  kinds : ∀ p ∈ prodT one other, MonO (n + k) p.1.m ∧ 0 ≤ p.1.p ∧ p.1.p ≤ pl + pk ∧ p.1.b.natAbs ≤ A * A
  len : (prodT one other).length ≤ T
  q : ∀ p ∈ prodT one other, QC (V * T) L p.2
  nz : ∀ p ∈ prodT one other, p.2 ≠ 0
  inc : Inc (prodT one other)
theorem prodC_ok {n k pl pk A V V' D1 D2 T : Nat} {one other : List (Kind × Rat)} (h1 : Rc n pl A V D1 one) (h2 : Rc k pk A V' D2 other) (hA : 1 ≤ A) (hD : 1 ≤ D1 * D2) (hT : (prodL pterms one other).length ≤ T) : ProdC n k pl pk A T (V * V' * (4 * A) ^ (pl + pk)) (D1 * D2) one other := by
  have hL : ∀ x ∈ prodL pterms one other, (MonO (n + k) x.1.m ∧ 0 ≤ x.1.p ∧ x.1.p ≤ pl + pk ∧ x.1.b.natAbs ≤ A * A) ∧ QC (V * V' * (4 * A) ^ (pl + pk)) (D1 * D2) x.2 := fun x hx => by
    obtain ⟨p, hp, r, hr, hx⟩ := mem_prod hx
    obtain ⟨i, hi, rfl⟩ := mem_pterms hx
    have a2 := h1.p1 p hp
    have a4 := h2.p1 r hr
    refine ⟨⟨mmul_ok (h1.m p hp) (h2.m r hr), by show (0 : Int) ≤ ((_ : Nat) : Int); omega, by show ((max p.1.p.toNat r.1.p.toNat + i : Nat) : Int) ≤ _; omega, ?_⟩, term_c h1 h2 hA hD hp hr _⟩
    show (p.1.b * r.1.b).natAbs ≤ _
    rw [Int.natAbs_mul]
    exact Nat.mul_le_mul (h1.b p hp) (h2.b r hr)
  have fin := onc_end (onc_start hT fun x hx => (hL x hx).2)
  obtain ⟨t, t1, t2, t3⟩ := fin.ex
  have t1 : t ≤ T := by simpa using t1
  refine ⟨fun p hp => ?_, Nat.le_trans (rows_len _) (by omega), fun p hp => onc_qc fin p (rows_nz p hp).1, fun p hp => (rows_nz p hp).2, nd_rows fin.nd⟩
  exact rows_all (P := fun k' : Kind => MonO (n + k) k'.m ∧ (0 : Int) ≤ k'.p ∧ k'.p ≤ (pl : Int) + pk ∧ k'.b.natAbs ≤ A * A) (acc := []) (fun _ z => (nomatch z)) (fun x hx => (hL x hx).1) p (rows_nz p hp).1
end DL

set_option Elab.async false
set_option linter.all false
set_option maxRecDepth 100000
set_option maxHeartbeats 4000000
set_option autoImplicit false
/-! At a count: the walks. -/
namespace DL
open PySem L2
open Emb
local macro_rules | `(tactic| walk_at "1") => `(tactic| with_reducible first
  | refine s_seq ?_ | refine s_asg ?_ | refine s_ret ?_ | refine s_if ?_ | refine s_expr ?_ | refine s_next ?_ | refine s_brk ?_ | refine s_cont ?_ | refine s_for ?_ | refine s_while ?_
  | refine p_c ?_ | refine p_bin ?_ | refine p_as ?_ | refine p_cons ?_ | refine p_nil ?_ | refine p_un ?_ | refine p_call ?_ | refine p_if ?_ | refine p_own ?_
  | refine p_keep ?_ | refine p_tru ?_ | refine p_and ?_ | refine p_or ?_ | refine p_not ?_ | refine p_val ?_ | refine p_rand ?_ | refine p_ror ?_ | refine p_rnot ?_ | refine p_chain ?_ | refine p_bif ?_
  | refine o_add ?_ | refine o_sub ?_ | refine o_ltU ?_ | refine o_leU ?_ | refine o_gtU ?_ | refine o_geU ?_ | refine o_neg ?_ | refine o_eqI ?_ | refine o_neI ?_ | refine o_abs ?_ | refine o_tru ?_ | refine p_true ?_ | refine p_false ?_
  | refine o_lenT ?_ | refine o_lenL ?_ | refine o_ix0 ?_ | refine o_ix1 ?_ | refine o_ix2 ?_ | refine o_ix0L ?_ | refine o_ix1L ?_ | refine o_ix2L ?_
  | refine s_par ?_ | refine p_yes ?_ | refine p_seq ?_ | refine s_gnil ?_ | refine s_gcons ?_ | refine s_gtux ?_ | refine s_gtupl ?_ | refine p_onone ?_ | refine p_osome ?_ | refine p_get2 ?_ | refine s_putU ?_ | refine p_sortIt ?_)
local macro_rules | `(tactic| walk_at "2") => `(tactic| first
  | walk_at "1"
  | (with_reducible refine p_var2 ?_)
  | ((with_reducible refine s_name ?_ ?_); (· exact Nat.le_of_ble_eq_true rfl); dsimp only [List.set_cons_zero, List.set_cons_succ])
  | (with_reducible refine p_tup ?_) | (with_reducible refine p_lst ?_) | ((with_reducible refine ⟨?_, ?_⟩); (· exact Nat.le_of_ble_eq_true rfl))
  | ((with_reducible refine p_ex2 (x := ?_) (y := ?_) ?_ ?_); rotate_left; rotate_left; (· rfl); refine ⟨?_, ?_, ?_⟩; (· exact Nat.le_of_ble_eq_true rfl); (· exact Nat.le_of_ble_eq_true rfl); dsimp only [List.set_cons_zero, List.set_cons_succ])
  | ((with_reducible refine p_isT ?_ ?_); (· rfl)) | ((with_reducible refine p_isF ?_ ?_); (· rfl))
  | ((with_reducible refine p_ex (x := ?_) ?_ ?_); rotate_left; (· rfl)))
local macro_rules | `(tactic| walk_at "3") => `(tactic| repeat walk_at "2")
theorem rng_cons {n t x : Nat} {xs : List Nat} (e : x :: xs = (List.range n).drop t) : x = t ∧ t < n ∧ xs = (List.range n).drop (t + 1) := by
  have ht : t < n := by
    have h := congrArg List.length e
    rw [List.length_cons, List.length_drop, List.length_range] at h
    omega
  rw [List.drop_eq_getElem_cons (by rw [List.length_range]; exact ht), List.getElem_range] at e
  injection e with e1 e2
  exact ⟨e1, ht, e2⟩
theorem rng_nil {n t : Nat} (e : [] = (List.range n).drop t) : n ≤ t := by
  have h := congrArg List.length e
  rw [List.length_nil, List.length_drop, List.length_range] at h
  omega
theorem rat_mulI (z : Rat) (n : Int) : ((z.num * n : Int) : Rat) / ((z.den : Int) : Rat) = z * (n : Rat) := by
  have h1 := rat_nd z
  have hx : ((z.den : Nat) : Rat) ≠ 0 := by have := z.den_nz; simp; omega
  have e1 : ((z.num * n : Int) : Rat) = (z.num : Rat) * (n : Rat) := by push_cast; rfl
  have e2 : (((z.den : Nat) : Int) : Rat) = ((z.den : Nat) : Rat) := by push_cast; rfl
  rw [e1, e2]
  generalize (z.num : Rat) = a at *
  generalize ((z.den : Nat) : Rat) = d at *
  subst h1
  grind
theorem tv_bound {p n A : Nat} {b : Int} (hb : b.natAbs ≤ A) (hA : 1 ≤ A) : (tv p b n).natAbs ≤ (2 * A) ^ n := by
  unfold tv
  split
  · rename_i h
    rw [Int.natAbs_mul, Int.natAbs_pow, Nat.mul_pow]
    refine Nat.mul_le_mul (bin_le n p) ?_
    exact Nat.le_trans (Nat.pow_le_pow_left hb _) (Nat.pow_le_pow_right hA (by omega))
  · exact Nat.zero_le _
theorem term_at_spec (p n : Nat) (b : Int) (hp : p ≤ 200) (hn : n ≤ 200) {A : Nat} (hb : b.natAbs ≤ A) (hA : A ≤ 2 ^ 100) (S : Sto) (hS : Sane S) : m_term_at [.int p, .int b, .int n] S = .ok (.int (tv p b n)) S := by
  refine m_defS hS rfl ?_
  show (b_term_at [some (.int p), some (.int b), some (.int n)] S).post _ _ _ _
  unfold b_term_at
  walk_at "3"
  refine ⟨fun h => ?_, fun h => ?_⟩
  · have h : (p : Int) ≤ n := of_decide_eq_true h
    have hpn : p ≤ n := by omega
    walk_at "3"
    refine Res.post.of_eq (choose_spec n p hn (by omega) S hS) ?_
    walk_at "3"
    rw [show (n : Int) - (p : Int) = ((n - p : Nat) : Int) by omega]
    obtain ⟨r1, r2⟩ := pow_lt4 (e := n - p) hb hA (by omega)
    refine Res.post.of_eq (raised_spec b (n - p) r1 r2 (by omega) S hS) ?_
    have c1 : ((bin n p : Nat) : Int).natAbs < 2 ^ 201 := Nat.lt_of_le_of_lt (Nat.le_trans (bin_le n p) (Nat.pow_le_pow_right (by decide) hn)) (by decide)
    refine o_mul (fits_of (a := 201) (b := 400000) c1 (by rw [Int.natAbs_pow]; exact r1) (by decide)) ?_
    refine ⟨?_, rfl⟩
    unfold tv
    rw [if_pos hpn]
  · have h : ¬ (p : Int) ≤ n := of_decide_eq_false h
    walk_at "3"
    refine ⟨?_, rfl⟩
    unfold tv
    rw [if_neg (by omega)]
theorem lpower_spec (b : Int) (k : Nat) (hk : k ≤ 2000) {A : Nat} (hb : b.natAbs ≤ A) (hA : A ≤ 2 ^ 100) (S : Sto) (hS : Sane S) : m__law_power [.int b, .int k] S = .ok (.int (b ^ k)) S := by
  refine m_defS hS rfl ?_
  show (b__law_power [some (.int b), some (.int k), none, none] S).post _ _ _ _
  unfold b__law_power
  walk_at "3"
  with_reducible refine p_range1 ?_
  walk_at "3"
  refine ⟨by omega, by omega, ?_⟩
  rw [rangeD_nat]
  refine s_forT (fun i : Nat => D.int (i : Int)) (fun xs δ S1 => S1 = S ∧ ∃ (i : Nat) (z : Option D), xs = (List.range k).drop i ∧ i ≤ k ∧ δ = [some (.int b), some (.int k), some (.int (b ^ i)), z]) ?_ ?_ _ _ _ ⟨rfl, 0, none, rfl, Nat.zero_le _, by rw [Int.pow_zero]⟩
  · rintro x xs δ S1 ⟨rfl, i, z, e, hi, rfl⟩
    have hx := rng_cons e
    clear e
    have ex := hx.1
    have hik := hx.2.1
    have e := hx.2.2
    clear hx
    subst ex
    walk_at "3"
    obtain ⟨r1, r2⟩ := pow_lt4 (e := x) hb hA (by omega)
    refine o_mul (fits_of (a := 400000) (b := 400000) (by rw [Int.natAbs_pow]; exact r1) r2 (by decide)) ?_
    walk_at "3"
    exact ⟨rfl, x + 1, some (.int (x : Int)), e, by omega, by rw [Int.pow_succ]⟩
  · rintro δ S1 ⟨rfl, i, z, e, hi, rfl⟩
    have : i = k := by have := rng_nil e; omega
    subst this
    walk_at "3"
    exact ⟨rfl, rfl⟩
theorem lterm_spec (p n : Nat) (b : Int) (hp : p ≤ 200) (hn : n ≤ 200) {A : Nat} (hb : b.natAbs ≤ A) (hA : A ≤ 2 ^ 100) (S : Sto) (hS : Sane S) : m__law_term [.int p, .int b, .int n] S = .ok (.int (tv p b n)) S := by
  refine m_defS hS rfl ?_
  show (b__law_term [some (.int p), some (.int b), some (.int n), none, none] S).post _ _ _ _
  unfold b__law_term
  walk_at "3"
  refine ⟨fun h => ?_, fun h => ?_⟩
  · have h : (n : Int) < p := of_decide_eq_true h
    walk_at "3"
    refine ⟨?_, rfl⟩
    unfold tv
    rw [if_neg (by omega)]
  · have h : ¬ (n : Int) < p := of_decide_eq_false h
    have hpn : p ≤ n := by omega
    walk_at "3"
    with_reducible refine p_range1 ?_
    walk_at "3"
    refine ⟨by omega, by omega, ?_⟩
    rw [rangeD_nat]
    refine s_forT (fun i : Nat => D.int (i : Int)) (fun xs δ S1 => S1 = S ∧ ∃ (i : Nat) (z : Option D), xs = (List.range p).drop i ∧ i ≤ p ∧ δ = [some (.int p), some (.int b), some (.int n), some (.int (bin n i)), z]) ?_ ?_ _ _ _ ⟨rfl, 0, none, rfl, Nat.zero_le _, by rw [bin_zero]; rfl⟩
    · rintro x xs δ S1 ⟨rfl, i, z, e, hi, rfl⟩
      have hx := rng_cons e
      clear e
      have ex := hx.1
      have hik := hx.2.1
      have e := hx.2.2
      clear hx
      subst ex
      walk_at "3"
      have b1 := bin_le n x
      have b2 : 2 ^ n ≤ 2 ^ 200 := Nat.pow_le_pow_right (by decide) hn
      have b3 : (bin n x : Int).natAbs < 2 ^ 201 := by
        show bin n x < 2 ^ 201
        exact Nat.lt_of_le_of_lt (Nat.le_trans b1 b2) (by decide)
      refine o_mul (fits_of (a := 201) (b := 9) b3 (by omega) (by decide)) ?_
      walk_at "3"
      refine o_div ⟨by omega, log_of (b := 9) (by omega) (by decide)⟩ ?_
      walk_at "3"
      refine ⟨rfl, x + 1, some (.int x), e, by omega, ?_⟩
      have st := bin_step (n := n) (k := x) (by omega)
      have e : ((bin n x : Int) * (n - x)).fdiv (x + 1) = (bin n (x + 1) : Int) := by
        have e1 : ((bin n x : Int) * (n - x)) = ((bin n (x + 1) : Int) * (x + 1)) := by
          rw [show ((n : Int) - x) = ((n - x : Nat) : Int) by omega, show ((x : Int) + 1) = ((x + 1 : Nat) : Int) by omega, ← Int.natCast_mul, ← Int.natCast_mul, st]
        rw [e1]
        exact Int.mul_fdiv_cancel _ (by omega)
      rw [e]
    · rintro δ S1 ⟨rfl, i, z, e, hi, rfl⟩
      have : i = p := by have := rng_nil e; omega
      subst this
      walk_at "3"
      rw [show (n : Int) - (i : Int) = ((n - i : Nat) : Int) by omega]
      have hpw := lpower_spec b (n - i) (by omega) hb hA S1 hS
      with_reducible refine Res.post.of_eq hpw ?_
      obtain ⟨r1, r2⟩ := pow_lt4 (e := n - i) hb hA (by omega)
      have c1 : ((bin n i : Nat) : Int).natAbs < 2 ^ 201 := Nat.lt_of_le_of_lt (Nat.le_trans (bin_le n i) (Nat.pow_le_pow_right (by decide) hn)) (by decide)
      refine o_mul (fits_of (a := 201) (b := 400000) c1 (by rw [Int.natAbs_pow]; exact r1) (by decide)) ?_
      refine ⟨?_, rfl⟩
      unfold tv
      rw [if_pos hpn]
/-! ### the walks -/
theorem ten_two {B : Nat} (h : B ≤ 10 ^ 1000) : B ≤ 2 ^ 4000 := Nat.le_trans h (Nat.le_trans (Nat.pow_le_pow_left (show 10 ≤ 2 ^ 4 by decide) 1000) (by rw [← Nat.pow_mul]; exact Nat.le_refl _))
theorem toNat_cast {x : Int} (h : 0 ≤ x) : x = ((x.toNat : Nat) : Int) := by omega
theorem at_qc {n pl A V L : Nat} {rows : List (Kind × Rat)} (h : Rc n pl A V L rows) (hA : 1 ≤ A) (c : Nat) : ∀ p ∈ atL rows c, MonO n p.1 ∧ QC (V * (2 * A) ^ c) L p.2 := fun q hq => by
  obtain ⟨p, hp, rfl⟩ := List.mem_map.mp hq
  exact ⟨h.m p hp, qc_int (h.q p hp) (tv_bound (h.b p hp) hA)⟩
structure AtG (n V L T : Nat) (rows : List (Mono × Rat)) : Prop where
  m : ∀ p ∈ rows, MonO n p.1
  len : rows.length ≤ T
  rb : 1 ≤ V → 1 ≤ L → 1 ≤ T → ∀ p ∈ rows, RB' (V * T * L) p.2
theorem at_ok {n pl A V L T : Nat} {rows : List (Kind × Rat)} (h : Rc n pl A V L rows) (hA : 1 ≤ A) (c : Nat) (hT : rows.length ≤ T) : AtG n (V * (2 * A) ^ c) L T (atT rows c) := by
  have fin := onc_end (onc_start (T := T) (by unfold atL; rw [List.length_map]; exact hT) fun x hx => (at_qc h hA c x hx).2)
  obtain ⟨t, t1, t2, t3⟩ := fin.ex
  have t1 : t ≤ T := by simpa using t1
  refine ⟨fun p hp => ?_, Nat.le_trans (rows_len _) (by omega), fun hV hL hT p hp => qc_rb (Nat.mul_pos hV hT) hL (onc_qc fin p (rows_nz p hp).1)⟩
  exact rows_all (P := fun m : Mono => MonO n m) (acc := []) (fun _ z => (nomatch z)) (fun x hx => (at_qc h hA c x hx).1) p (rows_nz p hp).1
section
variable {n pl A V L T c : Nat} {rows : List (Kind × Rat)}
theorem at_count_spec (h : Rc n pl A V L rows) (hA : 1 ≤ A) (hA2 : A ≤ 2 ^ 100) (hpl : pl ≤ 100) (hc : c ≤ 200) (hV : 1 ≤ V) (hL : 1 ≤ L) (hT : rows.length ≤ T) (hT0 : 1 ≤ T) (hT1 : T ≤ 1000) (hB : V * (2 * A) ^ c * T * L ≤ 10 ^ 1000) (S : Sto) (hS : Sane S) :
    m_at_count [toD rows, .int c] S = .ok (toD (atT rows c)) S := by
  have sl : 3000 ≤ sizeLine := by decide
  have hW : 1 ≤ V * (2 * A) ^ c := Nat.mul_pos hV (Nat.pow_pos (by omega))
  have hB2 := ten_two hB
  have hok := at_ok h hA c hT
  refine m_defJ hS (cl _ _) ?_
  show (b_at_count [some (toD rows), some (.int c), none, none, none, none, none] S).post _ _ _ _
  unfold b_at_count
  walk_at "3"
  refine .inr (.inl ⟨rows.map toD, rfl, ?_⟩)
  refine s_forT toD (fun xs δ S2 => ∃ (acc : List (Mono × Rat)) (u : D) (o3 o4 o5 o6 : Option D), S2 = S ++ [u] ∧ IsDic u acc ∧ (∀ p ∈ xs, p ∈ rows) ∧ OnC (V * (2 * A) ^ c) L T (addAll [] (atL rows c)) acc (atL xs c) ∧ δ = [some (toD rows), some (.int c), some (.ptr S.length), o3, o4, o5, o6]) ?_ ?_ _ _ _ ⟨[], _, _, _, _, _, rfl, isDic_nil, (fun _ z => z), onc_start (by unfold atL; rw [List.length_map]; exact hT) fun x hx => (at_qc h hA c x hx).2, rfl⟩
  · rintro x xs δ S2 ⟨acc, u, o3, o4, o5, o6, rfl, hu, hin, oc, rfl⟩
    have hx := hin x List.mem_cons_self
    have hSa : Sane (S ++ [u]) := sane_app hS (isDic_closed hu _)
    show (gTup _ (.tup [.tup [toD x.1.m, .int x.1.p, .int x.1.b], toD x.2]) _ _).post _
    walk_at "3"
    have px := h.p1 x hx
    have ex := toNat_cast (h.p0 x hx)
    have tb := tv_bound (p := x.1.p.toNat) (n := c) (h.b x hx) hA
    have hr : (x.1.p.toNat : Nat) ≤ 200 := by omega
    refine Res.post.of_eq (show m_term_at [.int x.1.p, .int x.1.b, .int c] (S ++ [u]) = .ok (.int (tK x.1 c)) (S ++ [u]) from by
      rw [ex]; exact term_at_spec x.1.p.toNat c x.1.b hr hc (h.b x hx) hA2 _ hSa) ?_
    walk_at "3"
    refine Res.post.of_eq (fraction_spec (tK x.1 c) 1 (by decide) (Nat.lt_of_lt_of_le (show (1 : Int).natAbs < 2 ^ 1 by decide) (Nat.pow_le_pow_right (by decide) (by decide))) _ hSa) ?_
    rw [rat_one]
    walk_at "3"
    have b1 : V * L ≤ V * (2 * A) ^ c * T * L := Nat.mul_le_mul_right _ (Nat.le_trans (Nat.le_mul_of_pos_right _ (Nat.pow_pos (by omega))) (Nat.le_mul_of_pos_right _ hT0))
    have b2 : (2 * A) ^ c ≤ V * (2 * A) ^ c * T * L := Nat.le_trans (Nat.le_trans (Nat.le_mul_of_pos_left _ hV) (Nat.le_mul_of_pos_right _ hT0)) (Nat.le_mul_of_pos_right _ hL)
    refine Res.post.of_eq (times_spec x.2 ((tK x.1 c : Int) : Rat) (B := V * (2 * A) ^ c * T * L) (rb_mono (qc_rb hV hL (h.q x hx)) b1) ⟨Nat.le_trans tb b2, Nat.le_trans (Nat.pow_pos (by omega)) b2⟩ hB2 _ hSa) ?_
    walk_at "3"
    obtain ⟨u', e', hu', oc'⟩ := add_one (added_adds (κ := Mono)) hS hu (show OnC (V * (2 * A) ^ c) L T (addAll [] (atL rows c)) acc ((x.1.m, x.2 * ((tK x.1 c : Int) : Rat)) :: atL xs c) from oc) hW hL hT0 (by omega) hB2
    refine Res.post.of_eq e' ?_
    exact ⟨_, u', _, _, _, _, rfl, hu', fun p hp => hin p (List.mem_cons_of_mem _ hp), oc', rfl⟩
  · rintro δ S2 ⟨acc, u, o3, o4, o5, o6, rfl, hu, hin, oc, rfl⟩
    have e : acc = addAll [] (atL rows c) := oc.eq
    subst e
    walk_at "3"
    obtain ⟨t, t1, t2, _⟩ := oc.ex
    have t1 : t + 0 ≤ T := t1
    refine Res.post.of_eq (pairs_of_spec (sane_app hS (isDic_closed hu _)) hu get_app (by omega) ⟨Nat.le_trans hok.len hT1, fun p hp => rb_mono (hok.rb hW hL hT0 p hp) hB⟩) ⟨rfl, take_app⟩
theorem lat_spec (h : Rc n pl A V L rows) (hA : 1 ≤ A) (hA2 : A ≤ 2 ^ 100) (hpl : pl ≤ 100) (hc : c ≤ 200) (hV : 1 ≤ V) (hL : 1 ≤ L) (hT : rows.length ≤ T) (hT0 : 1 ≤ T) (hT1 : T ≤ 1000) (hB : V * (2 * A) ^ c * T * L ≤ 10 ^ 1000) (S : Sto) (hS : Sane S) :
    m__law_at [toD rows, .int c] S = .ok (toD (atT rows c)) S := by
  have sl : 3000 ≤ sizeLine := by decide
  have hW : 1 ≤ V * (2 * A) ^ c := Nat.mul_pos hV (Nat.pow_pos (by omega))
  have hB2 := ten_two hB
  refine m_defJ hS (cl _ _) ?_
  show (b__law_at [some (toD rows), some (.int c), none, none, none, none, none] S).post _ _ _ _
  unfold b__law_at
  walk_at "3"
  refine .inr (.inl ⟨rows.map toD, rfl, ?_⟩)
  refine s_forT toD (fun xs δ S2 => ∃ (acc : List (Mono × Rat)) (u : D) (o3 o4 o5 o6 : Option D), S2 = S ++ [u] ∧ IsDic u acc ∧ (∀ p ∈ xs, p ∈ rows) ∧ OnC (V * (2 * A) ^ c) L T (addAll [] (atL rows c)) acc (atL xs c) ∧ δ = [some (toD rows), some (.int c), some (.ptr S.length), o3, o4, o5, o6]) ?_ ?_ _ _ _ ⟨[], _, _, _, _, _, rfl, isDic_nil, (fun _ z => z), onc_start (by unfold atL; rw [List.length_map]; exact hT) fun x hx => (at_qc h hA c x hx).2, rfl⟩
  · rintro x xs δ S2 ⟨acc, u, o3, o4, o5, o6, rfl, hu, hin, oc, rfl⟩
    have hx := hin x List.mem_cons_self
    have hSa : Sane (S ++ [u]) := sane_app hS (isDic_closed hu _)
    show (gTup _ (.tup [.tup [toD x.1.m, .int x.1.p, .int x.1.b], .tup [.int x.2.num, .int x.2.den]]) _ _).post _
    walk_at "3"
    have px := h.p1 x hx
    have ex := toNat_cast (h.p0 x hx)
    have tb := tv_bound (p := x.1.p.toNat) (n := c) (h.b x hx) hA
    have hr : (x.1.p.toNat : Nat) ≤ 200 := by omega
    refine Res.post.of_eq (show m__law_term [.int x.1.p, .int x.1.b, .int c] (S ++ [u]) = .ok (.int (tK x.1 c)) (S ++ [u]) from by
      rw [ex]; exact lterm_spec x.1.p.toNat c x.1.b hr hc (h.b x hx) hA2 _ hSa) ?_
    have b1 : V * L ≤ V * (2 * A) ^ c * T * L := Nat.mul_le_mul_right _ (Nat.le_trans (Nat.le_mul_of_pos_right _ (Nat.pow_pos (by omega))) (Nat.le_mul_of_pos_right _ hT0))
    have b2 : (2 * A) ^ c ≤ V * (2 * A) ^ c * T * L := Nat.le_trans (Nat.le_trans (Nat.le_mul_of_pos_left _ hV) (Nat.le_mul_of_pos_right _ hT0)) (Nat.le_mul_of_pos_right _ hL)
    have rx := rb_mono (qc_rb hV hL (h.q x hx)) (Nat.le_trans b1 hB2)
    have tb2 : (tK x.1 c).natAbs ≤ 2 ^ 4000 := Nat.le_trans tb (Nat.le_trans b2 hB2)
    refine o_mul (fits_of (a := 4001) (b := 4001) (by have := rx.1; omega) (by omega) (by decide)) ?_
    walk_at "3"
    refine Res.post.of_eq (lshare_spec (x.2.num * tK x.1 c) (x.2.den : Int) (den_pos' _) (Nat.lt_of_le_of_lt rx.2 (Nat.pow_lt_pow_right (by decide) (by decide))) _ hSa) ?_
    rw [rat_mulI]
    walk_at "3"
    obtain ⟨u', e', hu', oc'⟩ := add_one (lput_adds (κ := Mono)) hS hu (show OnC (V * (2 * A) ^ c) L T (addAll [] (atL rows c)) acc ((x.1.m, x.2 * ((tK x.1 c : Int) : Rat)) :: atL xs c) from oc) hW hL hT0 (by omega) hB2
    refine Res.post.of_eq e' ?_
    exact ⟨_, u', _, _, _, _, rfl, hu', fun p hp => hin p (List.mem_cons_of_mem _ hp), oc', rfl⟩
  · rintro δ S2 ⟨acc, u, o3, o4, o5, o6, rfl, hu, hin, oc, rfl⟩
    have e : acc = addAll [] (atL rows c) := oc.eq
    subst e
    walk_at "3"
    obtain ⟨t, t1, t2, _⟩ := oc.ex
    have t1 : t + 0 ≤ T := t1
    refine Res.post.of_eq (lpairs_spec (sane_app hS (isDic_closed hu _)) hu get_app (by omega)) ⟨rfl, take_app⟩
end
end DL

set_option Elab.async false
set_option linter.all false
set_option maxRecDepth 100000
set_option maxHeartbeats 4000000
set_option autoImplicit false
/-! At a count, by a bound of one's own. -/
namespace DL
open PySem L2
open Emb
local macro_rules | `(tactic| walk_at "1") => `(tactic| with_reducible first
  | refine s_seq ?_ | refine s_asg ?_ | refine s_ret ?_ | refine s_if ?_ | refine s_expr ?_ | refine s_next ?_ | refine s_brk ?_ | refine s_cont ?_ | refine s_for ?_ | refine s_while ?_
  | refine p_c ?_ | refine p_bin ?_ | refine p_as ?_ | refine p_cons ?_ | refine p_nil ?_ | refine p_un ?_ | refine p_call ?_ | refine p_if ?_ | refine p_own ?_
  | refine p_keep ?_ | refine p_tru ?_ | refine p_and ?_ | refine p_or ?_ | refine p_not ?_ | refine p_val ?_ | refine p_rand ?_ | refine p_ror ?_ | refine p_rnot ?_ | refine p_chain ?_ | refine p_bif ?_
  | refine o_add ?_ | refine o_sub ?_ | refine o_ltU ?_ | refine o_leU ?_ | refine o_gtU ?_ | refine o_geU ?_ | refine o_neg ?_ | refine o_eqI ?_ | refine o_neI ?_ | refine o_abs ?_ | refine o_tru ?_ | refine p_true ?_ | refine p_false ?_
  | refine o_lenT ?_ | refine o_lenL ?_ | refine o_ix0 ?_ | refine o_ix1 ?_ | refine o_ix2 ?_ | refine o_ix0L ?_ | refine o_ix1L ?_ | refine o_ix2L ?_
  | refine s_par ?_ | refine p_yes ?_ | refine p_seq ?_ | refine s_gnil ?_ | refine s_gcons ?_ | refine s_gtux ?_ | refine s_gtupl ?_ | refine p_onone ?_ | refine p_osome ?_ | refine p_get2 ?_ | refine s_putU ?_ | refine p_sortIt ?_)
local macro_rules | `(tactic| walk_at "2") => `(tactic| first
  | walk_at "1"
  | (with_reducible refine p_var2 ?_)
  | ((with_reducible refine s_name ?_ ?_); (· exact Nat.le_of_ble_eq_true rfl); dsimp only [List.set_cons_zero, List.set_cons_succ])
  | (with_reducible refine p_tup ?_) | (with_reducible refine p_lst ?_) | ((with_reducible refine ⟨?_, ?_⟩); (· exact Nat.le_of_ble_eq_true rfl))
  | ((with_reducible refine p_ex2 (x := ?_) (y := ?_) ?_ ?_); rotate_left; rotate_left; (· rfl); refine ⟨?_, ?_, ?_⟩; (· exact Nat.le_of_ble_eq_true rfl); (· exact Nat.le_of_ble_eq_true rfl); dsimp only [List.set_cons_zero, List.set_cons_succ])
  | ((with_reducible refine p_isT ?_ ?_); (· rfl)) | ((with_reducible refine p_isF ?_ ?_); (· rfl))
  | ((with_reducible refine p_ex (x := ?_) ?_ ?_); rotate_left; (· rfl)))
local macro_rules | `(tactic| walk_at "3") => `(tactic| repeat walk_at "2")
theorem at_qcZ {n pl A V L Z c : Nat} {rows : List (Kind × Rat)} (h : Rc n pl A V L rows) (hZ : ∀ p ∈ rows, (tK p.1 c).natAbs ≤ Z) : ∀ p ∈ atL rows c, MonO n p.1 ∧ QC (V * Z) L p.2 := fun q hq => by
  obtain ⟨p, hp, rfl⟩ := List.mem_map.mp hq
  exact ⟨h.m p hp, qc_int (h.q p hp) (hZ p hp)⟩
theorem at_okZ {n pl A V L T Z c : Nat} {rows : List (Kind × Rat)} (h : Rc n pl A V L rows) (hZ : ∀ p ∈ rows, (tK p.1 c).natAbs ≤ Z) (hT : rows.length ≤ T) : AtG n (V * Z) L T (atT rows c) := by
  have fin := onc_end (onc_start (T := T) (by unfold atL; rw [List.length_map]; exact hT) fun x hx => (at_qcZ h hZ x hx).2)
  obtain ⟨t, t1, t2, t3⟩ := fin.ex
  have t1 : t ≤ T := by simpa using t1
  refine ⟨fun p hp => ?_, Nat.le_trans (rows_len _) (by omega), fun hV hL hT p hp => qc_rb (Nat.mul_pos hV hT) hL (onc_qc fin p (rows_nz p hp).1)⟩
  exact rows_all (P := fun m : Mono => MonO n m) (acc := []) (fun _ z => (nomatch z)) (fun x hx => (at_qcZ h hZ x hx).1) p (rows_nz p hp).1
section
variable {n pl A V L T c Z : Nat} {rows : List (Kind × Rat)}
theorem at_count_specZ (h : Rc n pl A V L rows) (hZ : ∀ p ∈ rows, (tK p.1 c).natAbs ≤ Z) (hZ1 : 1 ≤ Z) (hA2 : A ≤ 2 ^ 100) (hpl : pl ≤ 100) (hc : c ≤ 200) (hV : 1 ≤ V) (hL : 1 ≤ L) (hT : rows.length ≤ T) (hT0 : 1 ≤ T) (hT1 : T ≤ 1000) (hB : V * Z * T * L ≤ 10 ^ 1000) (S : Sto) (hS : Sane S) :
    m_at_count [toD rows, .int c] S = .ok (toD (atT rows c)) S := by
  have sl : 3000 ≤ sizeLine := by decide
  have hW : 1 ≤ V * Z := Nat.mul_pos hV hZ1
  have hB2 := ten_two hB
  have hok := at_okZ h hZ hT
  refine m_defJ hS (cl _ _) ?_
  show (b_at_count [some (toD rows), some (.int c), none, none, none, none, none] S).post _ _ _ _
  unfold b_at_count
  walk_at "3"
  refine .inr (.inl ⟨rows.map toD, rfl, ?_⟩)
  refine s_forT toD (fun xs δ S2 => ∃ (acc : List (Mono × Rat)) (u : D) (o3 o4 o5 o6 : Option D), S2 = S ++ [u] ∧ IsDic u acc ∧ (∀ p ∈ xs, p ∈ rows) ∧ OnC (V * Z) L T (addAll [] (atL rows c)) acc (atL xs c) ∧ δ = [some (toD rows), some (.int c), some (.ptr S.length), o3, o4, o5, o6]) ?_ ?_ _ _ _ ⟨[], _, _, _, _, _, rfl, isDic_nil, (fun _ z => z), onc_start (by unfold atL; rw [List.length_map]; exact hT) fun x hx => (at_qcZ h hZ x hx).2, rfl⟩
  · rintro x xs δ S2 ⟨acc, u, o3, o4, o5, o6, rfl, hu, hin, oc, rfl⟩
    have hx := hin x List.mem_cons_self
    have hSa : Sane (S ++ [u]) := sane_app hS (isDic_closed hu _)
    show (gTup _ (.tup [.tup [toD x.1.m, .int x.1.p, .int x.1.b], toD x.2]) _ _).post _
    walk_at "3"
    have px := h.p1 x hx
    have ex := toNat_cast (h.p0 x hx)
    have tb := hZ x hx
    have hr : (x.1.p.toNat : Nat) ≤ 200 := by omega
    refine Res.post.of_eq (show m_term_at [.int x.1.p, .int x.1.b, .int c] (S ++ [u]) = .ok (.int (tK x.1 c)) (S ++ [u]) from by
      rw [ex]; exact term_at_spec x.1.p.toNat c x.1.b hr hc (h.b x hx) hA2 _ hSa) ?_
    walk_at "3"
    refine Res.post.of_eq (fraction_spec (tK x.1 c) 1 (by decide) (Nat.lt_of_lt_of_le (show (1 : Int).natAbs < 2 ^ 1 by decide) (Nat.pow_le_pow_right (by decide) (by decide))) _ hSa) ?_
    rw [rat_one]
    walk_at "3"
    have b1 : V * L ≤ V * Z * T * L := Nat.mul_le_mul_right _ (Nat.le_trans (Nat.le_mul_of_pos_right _ hZ1) (Nat.le_mul_of_pos_right _ hT0))
    have b2 : Z ≤ V * Z * T * L := Nat.le_trans (Nat.le_trans (Nat.le_mul_of_pos_left _ hV) (Nat.le_mul_of_pos_right _ hT0)) (Nat.le_mul_of_pos_right _ hL)
    refine Res.post.of_eq (times_spec x.2 ((tK x.1 c : Int) : Rat) (B := V * Z * T * L) (rb_mono (qc_rb hV hL (h.q x hx)) b1) ⟨Nat.le_trans tb b2, Nat.le_trans hZ1 b2⟩ hB2 _ hSa) ?_
    walk_at "3"
    obtain ⟨u', e', hu', oc'⟩ := add_one (added_adds (κ := Mono)) hS hu (show OnC (V * Z) L T (addAll [] (atL rows c)) acc ((x.1.m, x.2 * ((tK x.1 c : Int) : Rat)) :: atL xs c) from oc) hW hL hT0 (by omega) hB2
    refine Res.post.of_eq e' ?_
    exact ⟨_, u', _, _, _, _, rfl, hu', fun p hp => hin p (List.mem_cons_of_mem _ hp), oc', rfl⟩
  · rintro δ S2 ⟨acc, u, o3, o4, o5, o6, rfl, hu, hin, oc, rfl⟩
    have e : acc = addAll [] (atL rows c) := oc.eq
    subst e
    walk_at "3"
    obtain ⟨t, t1, t2, _⟩ := oc.ex
    have t1 : t + 0 ≤ T := t1
    refine Res.post.of_eq (pairs_of_spec (sane_app hS (isDic_closed hu _)) hu get_app (by omega) ⟨Nat.le_trans hok.len hT1, fun p hp => rb_mono (hok.rb hW hL hT0 p hp) hB⟩) ⟨rfl, take_app⟩
theorem lat_specZ (h : Rc n pl A V L rows) (hZ : ∀ p ∈ rows, (tK p.1 c).natAbs ≤ Z) (hZ1 : 1 ≤ Z) (hA2 : A ≤ 2 ^ 100) (hpl : pl ≤ 100) (hc : c ≤ 200) (hV : 1 ≤ V) (hL : 1 ≤ L) (hT : rows.length ≤ T) (hT0 : 1 ≤ T) (hT1 : T ≤ 1000) (hB : V * Z * T * L ≤ 10 ^ 1000) (S : Sto) (hS : Sane S) :
    m__law_at [toD rows, .int c] S = .ok (toD (atT rows c)) S := by
  have sl : 3000 ≤ sizeLine := by decide
  have hW : 1 ≤ V * Z := Nat.mul_pos hV hZ1
  have hB2 := ten_two hB
  refine m_defJ hS (cl _ _) ?_
  show (b__law_at [some (toD rows), some (.int c), none, none, none, none, none] S).post _ _ _ _
  unfold b__law_at
  walk_at "3"
  refine .inr (.inl ⟨rows.map toD, rfl, ?_⟩)
  refine s_forT toD (fun xs δ S2 => ∃ (acc : List (Mono × Rat)) (u : D) (o3 o4 o5 o6 : Option D), S2 = S ++ [u] ∧ IsDic u acc ∧ (∀ p ∈ xs, p ∈ rows) ∧ OnC (V * Z) L T (addAll [] (atL rows c)) acc (atL xs c) ∧ δ = [some (toD rows), some (.int c), some (.ptr S.length), o3, o4, o5, o6]) ?_ ?_ _ _ _ ⟨[], _, _, _, _, _, rfl, isDic_nil, (fun _ z => z), onc_start (by unfold atL; rw [List.length_map]; exact hT) fun x hx => (at_qcZ h hZ x hx).2, rfl⟩
  · rintro x xs δ S2 ⟨acc, u, o3, o4, o5, o6, rfl, hu, hin, oc, rfl⟩
    have hx := hin x List.mem_cons_self
    have hSa : Sane (S ++ [u]) := sane_app hS (isDic_closed hu _)
    show (gTup _ (.tup [.tup [toD x.1.m, .int x.1.p, .int x.1.b], .tup [.int x.2.num, .int x.2.den]]) _ _).post _
    walk_at "3"
    have px := h.p1 x hx
    have ex := toNat_cast (h.p0 x hx)
    have tb := hZ x hx
    have hr : (x.1.p.toNat : Nat) ≤ 200 := by omega
    refine Res.post.of_eq (show m__law_term [.int x.1.p, .int x.1.b, .int c] (S ++ [u]) = .ok (.int (tK x.1 c)) (S ++ [u]) from by
      rw [ex]; exact lterm_spec x.1.p.toNat c x.1.b hr hc (h.b x hx) hA2 _ hSa) ?_
    have b1 : V * L ≤ V * Z * T * L := Nat.mul_le_mul_right _ (Nat.le_trans (Nat.le_mul_of_pos_right _ hZ1) (Nat.le_mul_of_pos_right _ hT0))
    have b2 : Z ≤ V * Z * T * L := Nat.le_trans (Nat.le_trans (Nat.le_mul_of_pos_left _ hV) (Nat.le_mul_of_pos_right _ hT0)) (Nat.le_mul_of_pos_right _ hL)
    have rx := rb_mono (qc_rb hV hL (h.q x hx)) (Nat.le_trans b1 hB2)
    have tb2 : (tK x.1 c).natAbs ≤ 2 ^ 4000 := Nat.le_trans tb (Nat.le_trans b2 hB2)
    refine o_mul (fits_of (a := 4001) (b := 4001) (by have := rx.1; omega) (by omega) (by decide)) ?_
    walk_at "3"
    refine Res.post.of_eq (lshare_spec (x.2.num * tK x.1 c) (x.2.den : Int) (den_pos' _) (Nat.lt_of_le_of_lt rx.2 (Nat.pow_lt_pow_right (by decide) (by decide))) _ hSa) ?_
    rw [rat_mulI]
    walk_at "3"
    obtain ⟨u', e', hu', oc'⟩ := add_one (lput_adds (κ := Mono)) hS hu (show OnC (V * Z) L T (addAll [] (atL rows c)) acc ((x.1.m, x.2 * ((tK x.1 c : Int) : Rat)) :: atL xs c) from oc) hW hL hT0 (by omega) hB2
    refine Res.post.of_eq e' ?_
    exact ⟨_, u', _, _, _, _, rfl, hu', fun p hp => hin p (List.mem_cons_of_mem _ hp), oc', rfl⟩
  · rintro δ S2 ⟨acc, u, o3, o4, o5, o6, rfl, hu, hin, oc, rfl⟩
    have e : acc = addAll [] (atL rows c) := oc.eq
    subst e
    walk_at "3"
    obtain ⟨t, t1, t2, _⟩ := oc.ex
    have t1 : t + 0 ≤ T := t1
    refine Res.post.of_eq (lpairs_spec (sane_app hS (isDic_closed hu _)) hu get_app (by omega)) ⟨rfl, take_app⟩
end
end DL

set_option Elab.async false
set_option linter.all false
set_option maxRecDepth 100000
set_option maxHeartbeats 4000000
set_option autoImplicit false
/-! Moved on: the walks; sums. -/
namespace DL
open PySem L2
open Emb
local macro_rules | `(tactic| walk_at "1") => `(tactic| with_reducible first
  | refine s_seq ?_ | refine s_asg ?_ | refine s_ret ?_ | refine s_if ?_ | refine s_expr ?_ | refine s_next ?_ | refine s_brk ?_ | refine s_cont ?_ | refine s_for ?_ | refine s_while ?_
  | refine p_c ?_ | refine p_bin ?_ | refine p_as ?_ | refine p_cons ?_ | refine p_nil ?_ | refine p_un ?_ | refine p_call ?_ | refine p_if ?_ | refine p_own ?_
  | refine p_keep ?_ | refine p_tru ?_ | refine p_and ?_ | refine p_or ?_ | refine p_not ?_ | refine p_val ?_ | refine p_rand ?_ | refine p_ror ?_ | refine p_rnot ?_ | refine p_chain ?_ | refine p_bif ?_
  | refine o_add ?_ | refine o_sub ?_ | refine o_ltU ?_ | refine o_leU ?_ | refine o_gtU ?_ | refine o_geU ?_ | refine o_neg ?_ | refine o_eqI ?_ | refine o_neI ?_ | refine o_abs ?_ | refine o_tru ?_ | refine p_true ?_ | refine p_false ?_
  | refine o_lenT ?_ | refine o_lenL ?_ | refine o_ix0 ?_ | refine o_ix1 ?_ | refine o_ix2 ?_ | refine o_ix0L ?_ | refine o_ix1L ?_ | refine o_ix2L ?_
  | refine s_par ?_ | refine p_yes ?_ | refine p_seq ?_ | refine s_gnil ?_ | refine s_gcons ?_ | refine s_gtux ?_ | refine s_gtupl ?_ | refine p_onone ?_ | refine p_osome ?_ | refine p_get2 ?_ | refine s_putU ?_ | refine p_sortIt ?_)
local macro_rules | `(tactic| walk_at "2") => `(tactic| first
  | walk_at "1"
  | (with_reducible refine p_var2 ?_)
  | ((with_reducible refine s_name ?_ ?_); (· exact Nat.le_of_ble_eq_true rfl); dsimp only [List.set_cons_zero, List.set_cons_succ])
  | (with_reducible refine p_tup ?_) | (with_reducible refine p_lst ?_) | ((with_reducible refine ⟨?_, ?_⟩); (· exact Nat.le_of_ble_eq_true rfl))
  | ((with_reducible refine p_ex2 (x := ?_) (y := ?_) ?_ ?_); rotate_left; rotate_left; (· rfl); refine ⟨?_, ?_, ?_⟩; (· exact Nat.le_of_ble_eq_true rfl); (· exact Nat.le_of_ble_eq_true rfl); dsimp only [List.set_cons_zero, List.set_cons_succ])
  | ((with_reducible refine p_isT ?_ ?_); (· rfl)) | ((with_reducible refine p_isF ?_ ?_); (· rfl))
  | ((with_reducible refine p_ex (x := ?_) ?_ ?_); rotate_left; (· rfl)))
local macro_rules | `(tactic| walk_at "3") => `(tactic| repeat walk_at "2")
theorem mov_qc {n pl A V L : Nat} {rows : List (Kind × Rat)} (h : Rc n pl A V L rows) (hA : 1 ≤ A) : ∀ p ∈ movL rows, (MonO n p.1.m ∧ 0 ≤ p.1.p ∧ p.1.p ≤ pl ∧ p.1.b.natAbs ≤ A) ∧ QC (V * A) L p.2 := fun q hq => by
  unfold movL at hq
  obtain ⟨p, hp, hq⟩ := List.mem_flatMap.mp hq
  unfold movP at hq
  have a0 := h.p0 p hp
  have a1 := h.p1 p hp
  rcases List.mem_cons.mp hq with rfl | hq
  · exact ⟨⟨h.m p hp, a0, a1, h.b p hp⟩, qc_int (h.q p hp) (h.b p hp)⟩
  · split at hq
    · rw [List.mem_singleton.mp hq]
      exact ⟨⟨h.m p hp, by show 0 ≤ p.1.p - 1; omega, by show p.1.p - 1 ≤ _; omega, h.b p hp⟩, qc_mono (h.q p hp) (Nat.le_mul_of_pos_right _ hA)⟩
    · cases hq
theorem movP_len (p : Kind × Rat) : (movP p).length ≤ 2 := by
  unfold movP
  rw [List.length_cons]
  split
  · exact Nat.le_refl _
  · exact Nat.le_succ _
theorem movL_len : ∀ rows : List (Kind × Rat), (movL rows).length ≤ 2 * rows.length
  | [] => Nat.le_refl _
  | p :: r => by
    have h1 := movP_len p
    have h2 := movL_len r
    show (movP p ++ movL r).length ≤ _
    rw [List.length_append, List.length_cons]
    omega
structure MovG (n pl A V L T : Nat) (rows : List (Kind × Rat)) : Prop where
  rc : Rc n pl A (V * T) L rows
  len : rows.length ≤ T
  inc : Inc rows
  nz : ∀ p ∈ rows, p.2 ≠ 0
theorem mov_ok {n pl A V L T : Nat} {rows : List (Kind × Rat)} (h : Rc n pl A V L rows) (hA : 1 ≤ A) (hT : 2 * rows.length ≤ T) : MovG n pl A (V * A) L T (movT rows) := by
  have fin := onc_end (onc_start (T := T) (Nat.le_trans (movL_len rows) hT) fun x hx => (mov_qc h hA x hx).2)
  obtain ⟨t, t1, t2, t3⟩ := fin.ex
  have t1 : t ≤ T := by simpa using t1
  have kinds : ∀ p ∈ movT rows, MonO n p.1.m ∧ (0 : Int) ≤ p.1.p ∧ p.1.p ≤ pl ∧ p.1.b.natAbs ≤ A := fun p hp => rows_all (P := fun k : Kind => MonO n k.m ∧ (0 : Int) ≤ k.p ∧ k.p ≤ pl ∧ k.b.natAbs ≤ A) (acc := []) (fun _ z => (nomatch z)) (fun x hx => (mov_qc h hA x hx).1) p (rows_nz p hp).1
  exact ⟨⟨fun p hp => (kinds p hp).1, fun p hp => (kinds p hp).2.1, fun p hp => (kinds p hp).2.2.1, fun p hp => (kinds p hp).2.2.2, fun p hp => onc_qc fin p (rows_nz p hp).1⟩, Nat.le_trans (rows_len _) (by omega), nd_rows fin.nd, fun p hp => (rows_nz p hp).2⟩
theorem fine_rc {n pl A V L : Nat} {rows : List (Kind × Rat)} (h : Rc n pl A V L rows) (hl : rows.length ≤ 1000) (hpl : pl ≤ 99) (hA : A ≤ 10 ^ 100) (hV : 1 ≤ V) (hL : 1 ≤ L) (hB : V * L ≤ 10 ^ 1000) : FineK rows :=
  ⟨⟨hl, fun p hp => rb_mono (qc_rb hV hL (h.q p hp)) hB⟩, fun p hp => ⟨by have := h.p1 p hp; omega, Nat.le_trans (h.b p hp) (big_le hA)⟩⟩
section
variable {n pl A V L T : Nat} {rows : List (Kind × Rat)}
end
/-! ### sums, a common number below -/
theorem rc_sum {n k pl pk A V V' L : Nat} {one other : List (Kind × Rat)} (h1 : Rc n pl A V L one) (h2 : Rc k pk A V' L other) (n1 : ND one) (n2 : ND other) {N P W T : Nat} (hN : n ≤ N ∧ k ≤ N) (hP : pl ≤ P ∧ pk ≤ P) (hW : V ≤ W ∧ V' ≤ W) (hT : one.length + other.length ≤ T) : MovG N P A W L T (rowsT (sumT one other)) := by
  have hk : ∀ p ∈ sumT one other, MonO N p.1.m ∧ (0 : Int) ≤ p.1.p ∧ p.1.p ≤ P ∧ p.1.b.natAbs ≤ A := by
    unfold sumT
    rw [merge_id n1]
    refine rows_all (P := fun k : Kind => MonO N k.m ∧ (0 : Int) ≤ k.p ∧ k.p ≤ P ∧ k.b.natAbs ≤ A) (fun p hp => ?_) (fun p hp => ?_)
    · have := h1.p1 p hp
      exact ⟨⟨(h1.m p hp).inc, (h1.m p hp).nc, by have := (h1.m p hp).dg; omega⟩, h1.p0 p hp, by omega, h1.b p hp⟩
    · have := h2.p1 p hp
      exact ⟨⟨(h2.m p hp).inc, (h2.m p hp).nc, by have := (h2.m p hp).dg; omega⟩, h2.p0 p hp, by omega, h2.b p hp⟩
  have oc : OnC W L T (sumT one other) one other := ⟨by unfold sumT; rw [merge_id n1]; rfl, n1, ⟨one.length, hT, Nat.le_refl _, fun p hp => qc_mono (h1.q p hp) (by
    have : 1 ≤ one.length := List.length_pos_iff.mpr (List.ne_nil_of_mem hp)
    exact Nat.le_trans hW.1 (Nat.le_mul_of_pos_right _ this))⟩, fun p hp => qc_mono (h2.q p hp) hW.2⟩
  have fin := onc_end oc
  obtain ⟨t, t1, t2, t3⟩ := fin.ex
  have t1 : t ≤ T := by simpa using t1
  exact ⟨⟨fun p hp => (hk p (rows_nz p hp).1).1, fun p hp => (hk p (rows_nz p hp).1).2.1, fun p hp => (hk p (rows_nz p hp).1).2.2.1, fun p hp => (hk p (rows_nz p hp).1).2.2.2, fun p hp => onc_qc fin p (rows_nz p hp).1⟩, Nat.le_trans (rows_len _) (by omega), nd_rows fin.nd, fun p hp => (rows_nz p hp).2⟩
end DL

set_option Elab.async false
set_option linter.all false
set_option maxRecDepth 100000
set_option maxHeartbeats 4000000
set_option autoImplicit false
/-! k19: boxes of forms. -/
namespace DL
open PySem L2
open Emb
local macro_rules | `(tactic| walk_at "1") => `(tactic| with_reducible first
  | refine s_seq ?_ | refine s_asg ?_ | refine s_ret ?_ | refine s_if ?_ | refine s_expr ?_ | refine s_next ?_ | refine s_brk ?_ | refine s_cont ?_ | refine s_for ?_ | refine s_while ?_
  | refine p_c ?_ | refine p_bin ?_ | refine p_as ?_ | refine p_cons ?_ | refine p_nil ?_ | refine p_un ?_ | refine p_call ?_ | refine p_if ?_ | refine p_own ?_
  | refine p_keep ?_ | refine p_tru ?_ | refine p_and ?_ | refine p_or ?_ | refine p_not ?_ | refine p_val ?_ | refine p_rand ?_ | refine p_ror ?_ | refine p_rnot ?_ | refine p_chain ?_ | refine p_bif ?_
  | refine o_add ?_ | refine o_sub ?_ | refine o_ltU ?_ | refine o_leU ?_ | refine o_gtU ?_ | refine o_geU ?_ | refine o_neg ?_ | refine o_eqI ?_ | refine o_neI ?_ | refine o_abs ?_ | refine o_tru ?_ | refine p_true ?_ | refine p_false ?_
  | refine o_lenT ?_ | refine o_lenL ?_ | refine o_ix0 ?_ | refine o_ix1 ?_ | refine o_ix2 ?_ | refine o_ix0L ?_ | refine o_ix1L ?_ | refine o_ix2L ?_
  | refine s_par ?_ | refine p_yes ?_ | refine p_seq ?_ | refine s_gnil ?_ | refine s_gcons ?_ | refine s_gtux ?_ | refine s_gtupl ?_ | refine p_onone ?_ | refine p_osome ?_ | refine p_get2 ?_ | refine s_putU ?_ | refine p_sortIt ?_)
local macro_rules | `(tactic| walk_at "2") => `(tactic| first
  | walk_at "1"
  | (with_reducible refine p_var2 ?_)
  | ((with_reducible refine s_name ?_ ?_); (· exact Nat.le_of_ble_eq_true rfl); dsimp only [List.set_cons_zero, List.set_cons_succ])
  | (with_reducible refine p_tup ?_) | (with_reducible refine p_lst ?_) | ((with_reducible refine ⟨?_, ?_⟩); (· exact Nat.le_of_ble_eq_true rfl))
  | ((with_reducible refine p_ex2 (x := ?_) (y := ?_) ?_ ?_); rotate_left; rotate_left; (· rfl); refine ⟨?_, ?_, ?_⟩; (· exact Nat.le_of_ble_eq_true rfl); (· exact Nat.le_of_ble_eq_true rfl); dsimp only [List.set_cons_zero, List.set_cons_succ])
  | ((with_reducible refine p_isT ?_ ?_); (· rfl)) | ((with_reducible refine p_isF ?_ ?_); (· rfl))
  | ((with_reducible refine p_ex (x := ?_) ?_ ?_); rotate_left; (· rfl)))
local macro_rules | `(tactic| walk_at "3") => `(tactic| repeat walk_at "2")
/-- the boxes of a form -/
def boxF (kvs : List (Str × Int)) (rows : List (Kind × Rat)) : List (Str × Int) := rows.foldl (fun acc p => mergeT acc p.1.m) kvs
def boxT (rows : List (Kind × Rat)) : List (Str × Int) := boxF [] rows
theorem key_mergeT : ∀ {more kvs : List (Str × Int)}, (∀ p ∈ kvs, nice p.1 = true) → (∀ p ∈ more, nice p.1 = true) → ∀ p ∈ mergeT kvs more, nice p.1 = true
  | [], _, h, _ => h
  | p :: r, kvs, h, g => key_mergeT (more := r) (kvs := putT kvs p.1 p.2) (put_all (P := fun p : Str × Int => nice p.1 = true) h (g p List.mem_cons_self)) fun q hq => g q (List.mem_cons_of_mem _ hq)
theorem box_part {n : Nat} : ∀ {rows : List (Kind × Rat)} {kvs : List (Str × Int)}, (∀ p ∈ rows, MonO n p.1.m) → (∀ p ∈ kvs, nice p.1 = true) → (∀ p ∈ boxF kvs rows, nice p.1 = true) ∧ (boxF kvs rows).length ≤ kvs.length + n * rows.length
  | [], kvs, _, h => ⟨h, Nat.le_add_right _ _⟩
  | p :: r, kvs, hr, h => by
    have hp := hr p List.mem_cons_self
    have ih := box_part (rows := r) (kvs := mergeT kvs p.1.m) (fun q hq => hr q (List.mem_cons_of_mem _ hq)) (key_mergeT h fun q hq => (hp.nc q hq).1)
    refine ⟨ih.1, Nat.le_trans ih.2 ?_⟩
    have h1 := merge_len p.1.m kvs
    have h2 := (mono_len hp).1
    rw [List.length_cons, Nat.mul_succ]
    omega
/-- what stands while boxes are put together: the dict at place j -/
structure BoxSt (j : Nat) (S S2 : Sto) (kvs : List (Str × Int)) : Prop where
  len : S.length < S2.length
  keep : ∀ k, k < S.length → k ≠ j → S2[k]? = S[k]?
  dic : S2[j]? = some (D.dct (kvD kvs))
  sane : Sane S2
theorem closed_kvD {ν : Type} [Emb ν] (n : Nat) (kvs : List (Str × ν)) : D.closed n (D.dct (kvD kvs)) = true := isDic_closed (u := D.dct (kvD kvs)) (kvs := kvs) (.inr (.inl ⟨rfl, rfl⟩)) n
/-- one update -/
theorem upd_step {δ : Sl} {S2 : Sto} {j : Nat} {a k : RE} {m : Mono} {kvs : List (Str × Int)} {Q : D → Sto → Prop} (ha : ∀ {Q : D → Sto → Prop}, Q (.ptr j) S2 → (a δ S2).post Q) (hk : ∀ {Q : D → Sto → Prop}, Q (toD m) S2 → (k δ S2).post Q) (hj : S2[j]? = some (D.dct (kvD kvs))) (hn : ND m) (hl : kvs.length + m.length ≤ sizeLine)
    (h : Q D.non (List.set (S2 ++ [D.dct (kvD m)]) j (D.dct (kvD (mergeT kvs m))))) : (rUpd a (rOwn (rAs gDict (rCons k rNil))) δ S2).post Q := by
  have hjl : j < S2.length := (List.getElem?_eq_some_iff.mp hj).1
  obtain ⟨u, _, e, hu⟩ := dict_of S2 m
  rw [merge_id hn] at hu
  have eu := isDic_str hu
  subst eu
  refine p_upd (ha ⟨j, _, rfl, hj, ?_⟩)
  refine p_own ?_
  refine p_as ?_
  refine p_cons (hk ?_)
  refine p_nil ?_
  refine p_lift (show gDict S2 [toD m] = some (.dct (kvD m)) from e) ?_
  refine ⟨S2.length, kvD kvs, kvD m, rfl, by omega, by rw [List.getElem?_append_left hjl]; exact hj, by rw [List.getElem?_append_right (Nat.le_refl _), Nat.sub_self]; rfl, by rw [kvD_len, kvD_len]; exact hl, ?_⟩
  rw [mergeD_kv rfl]
  exact h
end DL

set_option Elab.async false
set_option linter.all false
set_option maxRecDepth 100000
set_option maxHeartbeats 4000000
set_option autoImplicit false
/-! k19: boxes of forms, the walk. -/
namespace DL
open PySem L2
open Emb
local macro_rules | `(tactic| walk_at "1") => `(tactic| with_reducible first
  | refine s_seq ?_ | refine s_asg ?_ | refine s_ret ?_ | refine s_if ?_ | refine s_expr ?_ | refine s_next ?_ | refine s_brk ?_ | refine s_cont ?_ | refine s_for ?_ | refine s_while ?_
  | refine p_c ?_ | refine p_bin ?_ | refine p_as ?_ | refine p_cons ?_ | refine p_nil ?_ | refine p_un ?_ | refine p_call ?_ | refine p_if ?_ | refine p_own ?_
  | refine p_keep ?_ | refine p_tru ?_ | refine p_and ?_ | refine p_or ?_ | refine p_not ?_ | refine p_val ?_ | refine p_rand ?_ | refine p_ror ?_ | refine p_rnot ?_ | refine p_chain ?_ | refine p_bif ?_
  | refine o_add ?_ | refine o_sub ?_ | refine o_ltU ?_ | refine o_leU ?_ | refine o_gtU ?_ | refine o_geU ?_ | refine o_neg ?_ | refine o_eqI ?_ | refine o_neI ?_ | refine o_abs ?_ | refine o_tru ?_ | refine p_true ?_ | refine p_false ?_
  | refine o_lenT ?_ | refine o_lenL ?_ | refine o_ix0 ?_ | refine o_ix1 ?_ | refine o_ix2 ?_ | refine o_ix0L ?_ | refine o_ix1L ?_ | refine o_ix2L ?_
  | refine s_par ?_ | refine p_yes ?_ | refine p_seq ?_ | refine s_gnil ?_ | refine s_gcons ?_ | refine s_gtux ?_ | refine s_gtupl ?_ | refine p_onone ?_ | refine p_osome ?_ | refine p_get2 ?_ | refine s_putU ?_ | refine p_sortIt ?_)
local macro_rules | `(tactic| walk_at "2") => `(tactic| first
  | walk_at "1"
  | (with_reducible refine p_var2 ?_)
  | ((with_reducible refine s_name ?_ ?_); (· exact Nat.le_of_ble_eq_true rfl); dsimp only [List.set_cons_zero, List.set_cons_succ])
  | (with_reducible refine p_tup ?_) | (with_reducible refine p_lst ?_) | ((with_reducible refine ⟨?_, ?_⟩); (· exact Nat.le_of_ble_eq_true rfl))
  | ((with_reducible refine p_ex2 (x := ?_) (y := ?_) ?_ ?_); rotate_left; rotate_left; (· rfl); refine ⟨?_, ?_, ?_⟩; (· exact Nat.le_of_ble_eq_true rfl); (· exact Nat.le_of_ble_eq_true rfl); dsimp only [List.set_cons_zero, List.set_cons_succ])
  | ((with_reducible refine p_isT ?_ ?_); (· rfl)) | ((with_reducible refine p_isF ?_ ?_); (· rfl))
  | ((with_reducible refine p_ex (x := ?_) ?_ ?_); rotate_left; (· rfl)))
local macro_rules | `(tactic| walk_at "3") => `(tactic| repeat walk_at "2")
theorem box_row {n : Nat} {r : Mono} (h : MonO n r) : ND r := inc_nd h.inc
theorem boxst_upd {j : Nat} {S S2 : Sto} {kvs : List (Str × Int)} {m : Mono} (h : BoxSt j S S2 kvs) : BoxSt j S (List.set (S2 ++ [D.dct (kvD m)]) j (D.dct (kvD (mergeT kvs m)))) (mergeT kvs m) := by
  have hjl : j < S2.length := (List.getElem?_eq_some_iff.mp h.dic).1
  refine ⟨by rw [List.length_set, List.length_append]; have := h.len; omega, fun k k1 k2 => ?_, List.getElem?_set_self (by rw [List.length_append]; omega), sane_set (sane_app h.sane (closed_kvD _ _)) (closed_kvD _ _)⟩
  rw [List.getElem?_set_ne (Ne.symm k2), List.getElem?_append_left (by have := h.len; omega)]
  exact h.keep k k1 k2
theorem boxes_in_spec {n : Nat} {rows : List (Kind × Rat)} (h : ∀ p ∈ rows, MonO n p.1.m) (hl : n * rows.length < 64) (S : Sto) (hS : Sane S) : m_boxes_in [toD rows] S = .ok (.lst ((sortT ((boxT rows).map (·.1))).map D.str)) S := by
  have sl : 3000 ≤ sizeLine := by decide
  have bp := box_part (n := n) (rows := rows) (kvs := []) h (fun _ z => nomatch z)
  have bl : (boxT rows).length < 64 := by have := bp.2; show (boxF [] rows).length < 64; simp only [List.length_nil] at this; omega
  refine m_defJ hS (emb_closed (κ := Str) _ _) ?_
  show (b_boxes_in [some (toD rows), none, none, none] S).post _ _ _ _
  unfold b_boxes_in
  walk_at "3"
  refine .inr (.inl ⟨rows.map toD, rfl, ?_⟩)
  refine s_forT toD (fun xs δ S2 => ∃ (kvs : List (Str × Int)) (o2 o3 : Option D), BoxSt S.length S S2 kvs ∧ (∀ p ∈ xs, p ∈ rows) ∧ boxF kvs xs = boxT rows ∧ kvs.length + n * xs.length < 64 ∧ δ = [some (toD rows), some (.ptr S.length), o2, o3]) ?_ ?_ _ _ _ ⟨[], _, _, ⟨by simp, fun k k1 _ => List.getElem?_append_left k1, get_app, sane_app hS rfl⟩, (fun _ z => z), rfl, by simpa using hl, rfl⟩
  · rintro x xs δ S2 ⟨kvs, o2, o3, hb, hin, hf, hk, rfl⟩
    have hx := h x (hin x List.mem_cons_self)
    have hm := (mono_len hx).1
    rw [List.length_cons, Nat.mul_succ] at hk
    show (gTup _ (.tup [.tup [toD x.1.m, .int x.1.p, .int x.1.b], toD x.2]) _ _).post _
    walk_at "3"
    refine upd_step (j := S.length) (m := x.1.m) (kvs := kvs) (fun q => p_var rfl q) (fun q => ?_) hb.dic (box_row hx) (by omega) ?_
    · walk_at "3"
      exact q
    · refine ⟨mergeT kvs x.1.m, _, _, boxst_upd hb, fun p hp => hin p (List.mem_cons_of_mem _ hp), hf, ?_, rfl⟩
      have := merge_len x.1.m kvs
      omega
  · rintro δ S2 ⟨kvs, o2, o3, hb, hin, hf, hk, rfl⟩
    have e : kvs = boxT rows := hf
    subst e
    walk_at "3"
    refine o_sortKeys hb.dic bl ?_
    refine ⟨_, rfl, ?_⟩
    walk_at "3"
    refine ⟨rfl, ?_⟩
    refine List.ext_getElem? fun k => ?_
    rw [List.getElem?_take]
    split
    · rename_i hk
      exact hb.keep k hk (by omega)
    · rename_i hk
      exact (List.getElem?_eq_none (by omega)).symm
end DL

set_option Elab.async false
set_option linter.all false
set_option maxRecDepth 100000
set_option maxHeartbeats 4000000
set_option autoImplicit false
/-! k19: what plain forms are worth, walks. -/
namespace DL
open PySem L2
open Emb
local macro_rules | `(tactic| walk_at "1") => `(tactic| with_reducible first
  | refine s_seq ?_ | refine s_asg ?_ | refine s_ret ?_ | refine s_if ?_ | refine s_expr ?_ | refine s_next ?_ | refine s_brk ?_ | refine s_cont ?_ | refine s_for ?_ | refine s_while ?_
  | refine p_c ?_ | refine p_bin ?_ | refine p_as ?_ | refine p_cons ?_ | refine p_nil ?_ | refine p_un ?_ | refine p_call ?_ | refine p_if ?_ | refine p_own ?_
  | refine p_keep ?_ | refine p_tru ?_ | refine p_and ?_ | refine p_or ?_ | refine p_not ?_ | refine p_val ?_ | refine p_rand ?_ | refine p_ror ?_ | refine p_rnot ?_ | refine p_chain ?_ | refine p_bif ?_
  | refine o_add ?_ | refine o_sub ?_ | refine o_ltU ?_ | refine o_leU ?_ | refine o_gtU ?_ | refine o_geU ?_ | refine o_neg ?_ | refine o_eqI ?_ | refine o_neI ?_ | refine o_abs ?_ | refine o_tru ?_ | refine p_true ?_ | refine p_false ?_
  | refine o_lenT ?_ | refine o_lenL ?_ | refine o_ix0 ?_ | refine o_ix1 ?_ | refine o_ix2 ?_ | refine o_ix0L ?_ | refine o_ix1L ?_ | refine o_ix2L ?_
  | refine s_par ?_ | refine p_yes ?_ | refine p_seq ?_ | refine s_gnil ?_ | refine s_gcons ?_ | refine s_gtux ?_ | refine s_gtupl ?_ | refine p_onone ?_ | refine p_osome ?_ | refine p_get2 ?_ | refine s_putU ?_ | refine p_sortIt ?_)
local macro_rules | `(tactic| walk_at "2") => `(tactic| first
  | walk_at "1"
  | (with_reducible refine p_var2 ?_)
  | ((with_reducible refine s_name ?_ ?_); (· exact Nat.le_of_ble_eq_true rfl); dsimp only [List.set_cons_zero, List.set_cons_succ])
  | (with_reducible refine p_tup ?_) | (with_reducible refine p_lst ?_) | ((with_reducible refine ⟨?_, ?_⟩); (· exact Nat.le_of_ble_eq_true rfl))
  | ((with_reducible refine p_ex2 (x := ?_) (y := ?_) ?_ ?_); rotate_left; rotate_left; (· rfl); refine ⟨?_, ?_, ?_⟩; (· exact Nat.le_of_ble_eq_true rfl); (· exact Nat.le_of_ble_eq_true rfl); dsimp only [List.set_cons_zero, List.set_cons_succ])
  | ((with_reducible refine p_isT ?_ ?_); (· rfl)) | ((with_reducible refine p_isF ?_ ?_); (· rfl))
  | ((with_reducible refine p_ex (x := ?_) ?_ ?_); rotate_left; (· rfl)))
local macro_rules | `(tactic| walk_at "3") => `(tactic| repeat walk_at "2")
theorem pow_ltB {a : Int} {A e : Nat} (ha : a.natAbs ≤ A) (hA : A ≤ 10 ^ 101) (he : e ≤ 12) : a.natAbs ^ e < 2 ^ 400000 ∧ a.natAbs < 2 ^ 400000 := by
  have hA2 : A ≤ 2 ^ 340 := Nat.le_trans hA (by decide +kernel)
  have h1 : a.natAbs ^ e ≤ (2 ^ 340) ^ 12 := Nat.le_trans (Nat.pow_le_pow_left (Nat.le_trans ha hA2) _) (Nat.pow_le_pow_right (by decide) he)
  rw [← Nat.pow_mul] at h1
  refine ⟨Nat.lt_of_le_of_lt h1 (Nat.pow_lt_pow_right (by decide) (by decide)), Nat.lt_of_le_of_lt (Nat.le_trans ha hA2) (Nat.pow_lt_pow_right (by decide) (by decide))⟩
theorem pow_B {B d : Nat} (hB : B ≤ 10 ^ 101) (hd : d ≤ 12) (h1 : 1 ≤ B) : B ^ d ≤ 2 ^ 4080 := by
  have hA2 : B ≤ 2 ^ 340 := Nat.le_trans hB (by decide +kernel)
  have h2 : B ^ d ≤ (2 ^ 340) ^ 12 := Nat.le_trans (Nat.pow_le_pow_left hA2 _) (Nat.pow_le_pow_right (by decide) hd)
  rw [← Nat.pow_mul] at h2
  exact h2
theorem lpower_specB (b : Int) (k : Nat) (hk : k ≤ 12) {A : Nat} (hb : b.natAbs ≤ A) (hA : A ≤ 10 ^ 101) (S : Sto) (hS : Sane S) : m__law_power [.int b, .int k] S = .ok (.int (b ^ k)) S := by
  refine m_defS hS rfl ?_
  show (b__law_power [some (.int b), some (.int k), none, none] S).post _ _ _ _
  unfold b__law_power
  walk_at "3"
  with_reducible refine p_range1 ?_
  walk_at "3"
  refine ⟨by omega, by omega, ?_⟩
  rw [rangeD_nat]
  refine s_forT (fun i : Nat => D.int (i : Int)) (fun xs δ S1 => S1 = S ∧ ∃ (i : Nat) (z : Option D), xs = (List.range k).drop i ∧ i ≤ k ∧ δ = [some (.int b), some (.int k), some (.int (b ^ i)), z]) ?_ ?_ _ _ _ ⟨rfl, 0, none, rfl, Nat.zero_le _, by rw [Int.pow_zero]⟩
  · rintro x xs δ S1 ⟨rfl, i, z, e, hi, rfl⟩
    have hx := rng_cons e
    clear e
    have ex := hx.1
    have hik := hx.2.1
    have e := hx.2.2
    clear hx
    subst ex
    walk_at "3"
    obtain ⟨r1, r2⟩ := pow_ltB (e := x) hb hA (by omega)
    refine o_mul (fits_of (a := 400000) (b := 400000) (by rw [Int.natAbs_pow]; exact r1) r2 (by decide)) ?_
    walk_at "3"
    exact ⟨rfl, x + 1, some (.int (x : Int)), e, by omega, by rw [Int.pow_succ]⟩
  · rintro δ S1 ⟨rfl, i, z, e, hi, rfl⟩
    have : i = k := by have := rng_nil e; omega
    subst this
    walk_at "3"
    exact ⟨rfl, rfl⟩
/-- values that are there for all boxes of the rows, none beyond B -/
structure VOk (B : Nat) (vals : List (Str × Int)) (rows : List (Mono × Rat)) : Prop where
  all : ∀ p ∈ rows, ∀ y ∈ p.1, ∃ v, getT vals y.1 = some v
  le : ∀ x, (valOf vals x).natAbs ≤ B
  b1 : 1 ≤ B
  b2 : B ≤ 10 ^ 101
theorem o_val {S : Sto} {j : Nat} {u : D} {vals : List (Str × Int)} {x : Str} {Q : D → Sto → Prop} (hu : IsDic u vals) (hj : S[j]? = some u) (hx : ∃ v, getT vals x = some v) (h : Q (.int (valOf vals x)) S) : (Res.lift (gGetU S (.ptr j) (.str x)) S).post Q := by
  obtain ⟨v, e⟩ := hx
  have e2 : gGetU S (.ptr j) (.str x) = some (.int (valOf vals x)) := by
    unfold gGetU
    rw [show lookU S (.ptr j) (.str x) = _ from dic_lookU hu hj x, e]
    unfold valOf
    rw [e]
    rfl
  exact p_lift e2 h
section
variable {n V L T j B : Nat} {rows : List (Mono × Rat)} {u : D} {S : Sto} {vals : List (Str × Int)}
theorem plain_value_spec (hS : Sane S) (hu : IsDic u vals) (hj : S[j]? = some u) (hv : VOk B vals rows) (h : ∀ p ∈ rows, MonO n p.1 ∧ QC V L p.2) (hn : n ≤ 12) (hV : 1 ≤ V) (hL : 1 ≤ L) (hT : rows.length ≤ T) (hT0 : 1 ≤ T) (hB : V * B ^ n * T * L ≤ 2 ^ 4000) :
    m_plain_value [toD rows, .ptr j] S = .ok (toD (lin (mvR vals) rows)) S := by
  have hW1 : 1 ≤ B ^ n := Nat.pow_pos hv.b1
  have hW2 : B ^ n ≤ 2 ^ 4080 := pow_B hv.b2 hn hv.b1
  generalize hWe : B ^ n = W at hW1 hW2 hB
  refine m_defS hS (cl _ _) ?_
  show (b_plain_value [some (toD rows), some (.ptr j), none, none, none, none, none, none] S).post _ _ _ _
  unfold b_plain_value
  walk_at "3"
  refine .inr (.inl ⟨rows.map toD, rfl, ?_⟩)
  refine s_forT toD (fun xs δ S2 => ∃ (q : Rat) (t : Nat) (o3 o4 o5 o6 o7 : Option D), S2 = S ∧ (∀ p ∈ xs, p ∈ rows) ∧ t + xs.length ≤ T ∧ QC (V * W * t) L q ∧ q + lin (mvR vals) xs = lin (mvR vals) rows ∧ δ = [some (toD rows), some (.ptr j), some (toD q), o3, o4, o5, o6, o7]) ?_ ?_ _ _ _ ⟨0, 0, _, _, _, _, _, rfl, (fun _ z => z), by omega, qc_mono (qc_zero L) (Nat.zero_le _), by grind, rfl⟩
  · rintro x xs δ S2 ⟨q, t, o3, o4, o5, o6, o7, rfl, hin, ht, hq, hs, rfl⟩
    have hx := hin x List.mem_cons_self
    obtain ⟨hm, hc⟩ := h x hx
    rw [List.length_cons] at ht
    show (gTup _ (.tup [toD x.1, toD x.2]) _ _).post _
    walk_at "3"
    refine .inr (.inl ⟨x.1.map toD, rfl, ?_⟩)
    have hb := mv_bound2 (vals := vals) hv.b1 hv.le hm
    rw [hWe] at hb
    refine s_forT toD (fun ys δ S3 => ∃ (a : Int) (d : Nat) (o6 o7 : Option D), S3 = S2 ∧ (∀ y ∈ ys, y ∈ x.1) ∧ a * mv vals ys = mv vals x.1 ∧ a.natAbs ≤ B ^ d ∧ d + (degT ys).toNat ≤ n ∧ δ = [some (toD rows), some (.ptr j), some (toD q), some (toD x.1), some (toD x.2), some (.int a), o6, o7]) ?_ ?_ _ _ _ ⟨1, 0, _, _, rfl, (fun _ z => z), Int.one_mul _, Nat.le_refl _, by have := hm.dg; omega, rfl⟩
    · rintro y ys δ S3 ⟨a, d, o6, o7, rfl, hiy, ha, hab, hd, rfl⟩
      have hy := hm.nc y (hiy y List.mem_cons_self)
      have hr := (deg_pos (m := ys) fun z hz => hm.nc z (hiy z (List.mem_cons_of_mem _ hz))).1
      have e : degT (y :: ys) = y.2 + degT ys := by unfold degT; rw [List.map_cons, List.sum_cons]
      rw [e] at hd
      have hd : d + y.2.toNat + (degT ys).toNat ≤ n := by omega
      have hp12 : y.2.toNat ≤ 12 := by omega
      show (gTup _ (.tup [.str y.1, .int y.2]) _ _).post _
      walk_at "3"
      refine o_val hu hj (hv.all x hx y (hiy y List.mem_cons_self)) ?_
      walk_at "3"
      have ex := toNat_cast (show 0 ≤ y.2 by omega)
      obtain ⟨r1, r2⟩ := pow_ltB (e := y.2.toNat) (hv.le y.1) hv.b2 (by omega)
      have hra := raised_spec (valOf vals y.1) y.2.toNat r1 r2 (by omega) _ hS
      rw [← ex] at hra
      refine Res.post.of_eq hra ?_
      walk_at "3"
      have ab : a.natAbs < 2 ^ 4081 := Nat.lt_of_le_of_lt (Nat.le_trans hab (pow_B hv.b2 (show d ≤ 12 by omega) hv.b1)) (Nat.pow_lt_pow_right (by decide) (by decide))
      refine o_mul (fits_of (a := 4081) (b := 400000) ab (by rw [Int.natAbs_pow]; exact r1) (by decide)) ?_
      walk_at "3"
      refine ⟨a * valOf vals y.1 ^ y.2.toNat, d + y.2.toNat, _, _, rfl, fun z hz => hiy z (List.mem_cons_of_mem _ hz), ?_, ?_, hd, rfl⟩
      · rw [← ha, mv_cons, Int.mul_assoc]
      · rw [Int.natAbs_mul, Int.natAbs_pow, Nat.pow_add]
        exact Nat.mul_le_mul hab (Nat.pow_le_pow_left (hv.le _) _)
    · rintro δ S3 ⟨a, d, o6, o7, rfl, hiy, ha, hab, hd, rfl⟩
      have ea : a = mv vals x.1 := by rw [← ha]; show a = a * 1; omega
      subst ea
      walk_at "3"
      refine Res.post.of_eq (fraction_spec (mv vals x.1) 1 (by decide) (Nat.lt_of_lt_of_le (show (1 : Int).natAbs < 2 ^ 1 by decide) (Nat.pow_le_pow_right (by decide) (by decide))) _ hS) ?_
      rw [rat_one]
      walk_at "3"
      have b1 : V * L ≤ V * W * T * L := Nat.mul_le_mul_right _ (Nat.le_trans (Nat.le_mul_of_pos_right _ hW1) (Nat.le_mul_of_pos_right _ hT0))
      have b2 : W ≤ V * W * T * L := Nat.le_trans (Nat.le_trans (Nat.le_mul_of_pos_left _ hV) (Nat.le_mul_of_pos_right _ hT0)) (Nat.le_mul_of_pos_right _ hL)
      refine Res.post.of_eq (times_spec x.2 (mvR vals x.1) (B := V * W * T * L) (rb_mono (qc_rb hV hL hc) b1) ⟨Nat.le_trans hb b2, Nat.le_trans hW1 b2⟩ hB _ hS) ?_
      walk_at "3"
      have hVW : 1 ≤ V * W := Nat.mul_pos hV hW1
      have qp : QC (V * W) L (x.2 * mvR vals x.1) := qc_int hc hb
      have r1 : RB' (V * W * T * L) q := qc_rb (Nat.mul_pos hVW hT0) hL (qc_mono hq (Nat.mul_le_mul_left _ (by omega)))
      have r2 : RB' (V * W * T * L) (x.2 * mvR vals x.1) := rb_mono (qc_rb hVW hL qp) (Nat.mul_le_mul_right _ (Nat.le_mul_of_pos_right _ hT0))
      refine Res.post.of_eq (plus_spec q (x.2 * mvR vals x.1) r1 r2 hB _ hS) ?_
      walk_at "3"
      refine ⟨q + x.2 * mvR vals x.1, t + 1, _, _, _, _, _, rfl, fun p hp => hin p (List.mem_cons_of_mem _ hp), by omega, by rw [Nat.mul_succ]; exact qc_add hq qp, ?_, rfl⟩
      rw [← hs, lin_cons]
      grind
  · rintro δ S2 ⟨q, t, o3, o4, o5, o6, o7, rfl, hin, ht, hq, hs, rfl⟩
    have eq : q = lin (mvR vals) rows := by rw [← hs]; show q = q + 0; grind
    subst eq
    walk_at "3"
    exact ⟨rfl, rfl⟩
theorem lworth_spec (hS : Sane S) (hu : IsDic u vals) (hj : S[j]? = some u) (hv : VOk B vals rows) (h : ∀ p ∈ rows, MonO n p.1 ∧ QC V L p.2) (hn : n ≤ 12) (hV : 1 ≤ V) (hL : 1 ≤ L) (hT : rows.length ≤ T) (hT0 : 1 ≤ T) (hB : V * B ^ n * T * L ≤ 2 ^ 4000) :
    m__law_worth [toD rows, .ptr j] S = .ok (toD (lin (mvR vals) rows)) S := by
  have hW1 : 1 ≤ B ^ n := Nat.pow_pos hv.b1
  have hW2 : B ^ n ≤ 2 ^ 4080 := pow_B hv.b2 hn hv.b1
  generalize hWe : B ^ n = W at hW1 hW2 hB
  refine m_defS hS (cl _ _) ?_
  show (b__law_worth [some (toD rows), some (.ptr j), none, none, none, none, none, none] S).post _ _ _ _
  unfold b__law_worth
  walk_at "3"
  refine .inr (.inl ⟨rows.map toD, rfl, ?_⟩)
  refine s_forT toD (fun xs δ S2 => ∃ (q : Rat) (t : Nat) (o3 o4 o5 o6 o7 : Option D), S2 = S ∧ (∀ p ∈ xs, p ∈ rows) ∧ t + xs.length ≤ T ∧ QC (V * W * t) L q ∧ q + lin (mvR vals) xs = lin (mvR vals) rows ∧ δ = [some (toD rows), some (.ptr j), some (toD q), o3, o4, o5, o6, o7]) ?_ ?_ _ _ _ ⟨0, 0, _, _, _, _, _, rfl, (fun _ z => z), by omega, qc_mono (qc_zero L) (Nat.zero_le _), by grind, rfl⟩
  · rintro x xs δ S2 ⟨q, t, o3, o4, o5, o6, o7, rfl, hin, ht, hq, hs, rfl⟩
    have hx := hin x List.mem_cons_self
    obtain ⟨hm, hc⟩ := h x hx
    rw [List.length_cons] at ht
    show (gTup _ (.tup [toD x.1, .tup [.int x.2.num, .int x.2.den]]) _ _).post _
    walk_at "3"
    refine .inr (.inl ⟨x.1.map toD, rfl, ?_⟩)
    have hb := mv_bound2 (vals := vals) hv.b1 hv.le hm
    rw [hWe] at hb
    refine s_forT toD (fun ys δ S3 => ∃ (a : Int) (d : Nat) (o6 o7 : Option D), S3 = S2 ∧ (∀ y ∈ ys, y ∈ x.1) ∧ a * mv vals ys = mv vals x.1 ∧ a.natAbs ≤ B ^ d ∧ d + (degT ys).toNat ≤ n ∧ δ = [some (toD rows), some (.ptr j), some (toD q), some (toD x.1), some (.tup [.int x.2.num, .int x.2.den]), some (.int a), o6, o7]) ?_ ?_ _ _ _ ⟨1, 0, _, _, rfl, (fun _ z => z), Int.one_mul _, Nat.le_refl _, by have := hm.dg; omega, rfl⟩
    · rintro y ys δ S3 ⟨a, d, o6, o7, rfl, hiy, ha, hab, hd, rfl⟩
      have hy := hm.nc y (hiy y List.mem_cons_self)
      have hr := (deg_pos (m := ys) fun z hz => hm.nc z (hiy z (List.mem_cons_of_mem _ hz))).1
      have e : degT (y :: ys) = y.2 + degT ys := by unfold degT; rw [List.map_cons, List.sum_cons]
      rw [e] at hd
      have hd : d + y.2.toNat + (degT ys).toNat ≤ n := by omega
      have hp12 : y.2.toNat ≤ 12 := by omega
      show (gTup _ (.tup [.str y.1, .int y.2]) _ _).post _
      walk_at "3"
      refine o_val hu hj (hv.all x hx y (hiy y List.mem_cons_self)) ?_
      walk_at "3"
      have ex := toNat_cast (show 0 ≤ y.2 by omega)
      obtain ⟨r1, r2⟩ := pow_ltB (e := y.2.toNat) (hv.le y.1) hv.b2 (by omega)
      have hra := lpower_specB (valOf vals y.1) y.2.toNat (by omega) (hv.le y.1) hv.b2 _ hS
      rw [← ex] at hra
      refine Res.post.of_eq hra ?_
      walk_at "3"
      have ab : a.natAbs < 2 ^ 4081 := Nat.lt_of_le_of_lt (Nat.le_trans hab (pow_B hv.b2 (show d ≤ 12 by omega) hv.b1)) (Nat.pow_lt_pow_right (by decide) (by decide))
      refine o_mul (fits_of (a := 4081) (b := 400000) ab (by rw [Int.natAbs_pow]; exact r1) (by decide)) ?_
      walk_at "3"
      refine ⟨a * valOf vals y.1 ^ y.2.toNat, d + y.2.toNat, _, _, rfl, fun z hz => hiy z (List.mem_cons_of_mem _ hz), ?_, ?_, hd, rfl⟩
      · rw [← ha, mv_cons, Int.mul_assoc]
      · rw [Int.natAbs_mul, Int.natAbs_pow, Nat.pow_add]
        exact Nat.mul_le_mul hab (Nat.pow_le_pow_left (hv.le _) _)
    · rintro δ S3 ⟨a, d, o6, o7, rfl, hiy, ha, hab, hd, rfl⟩
      have ea : a = mv vals x.1 := by rw [← ha]; show a = a * 1; omega
      subst ea
      walk_at "3"
      have b1 : V * L ≤ V * W * T * L := Nat.mul_le_mul_right _ (Nat.le_trans (Nat.le_mul_of_pos_right _ hW1) (Nat.le_mul_of_pos_right _ hT0))
      have rx := rb_mono (qc_rb hV hL hc) (Nat.le_trans b1 hB)
      refine o_mul (fits_of (a := 4001) (b := 4081) (Nat.lt_of_le_of_lt rx.1 (Nat.pow_lt_pow_right (by decide) (by decide))) (Nat.lt_of_le_of_lt (Nat.le_trans hb hW2) (Nat.pow_lt_pow_right (by decide) (by decide))) (by decide)) ?_
      walk_at "3"
      refine Res.post.of_eq (lshare_spec (x.2.num * mv vals x.1) (x.2.den : Int) (den_pos' _) (Nat.lt_of_le_of_lt rx.2 (Nat.pow_lt_pow_right (by decide) (by decide))) _ hS) ?_
      rw [rat_mulI]
      walk_at "3"
      have hVW : 1 ≤ V * W := Nat.mul_pos hV hW1
      have qp : QC (V * W) L (x.2 * mvR vals x.1) := qc_int hc hb
      have r1 : RB' (V * W * T * L) q := qc_rb (Nat.mul_pos hVW hT0) hL (qc_mono hq (Nat.mul_le_mul_left _ (by omega)))
      have r2 : RB' (V * W * T * L) (x.2 * mvR vals x.1) := rb_mono (qc_rb hVW hL qp) (Nat.mul_le_mul_right _ (Nat.le_mul_of_pos_right _ hT0))
      refine Res.post.of_eq (lplus_spec q (x.2 * mvR vals x.1) r1 r2 hB _ hS) ?_
      walk_at "3"
      refine ⟨q + x.2 * mvR vals x.1, t + 1, _, _, _, _, _, rfl, fun p hp => hin p (List.mem_cons_of_mem _ hp), by omega, by rw [Nat.mul_succ]; exact qc_add hq qp, ?_, rfl⟩
      rw [← hs, lin_cons]
      grind
  · rintro δ S2 ⟨q, t, o3, o4, o5, o6, o7, rfl, hin, ht, hq, hs, rfl⟩
    have eq : q = lin (mvR vals) rows := by rw [← hs]; show q = q + 0; grind
    subst eq
    walk_at "3"
    exact ⟨rfl, rfl⟩
end
end DL

set_option Elab.async false
set_option linter.all false
set_option maxRecDepth 100000
set_option maxHeartbeats 4000000
set_option autoImplicit false
/-! k19: the values that are drawn. -/
namespace DL
open PySem L2
open Emb
local macro_rules | `(tactic| walk_at "1") => `(tactic| with_reducible first
  | refine s_seq ?_ | refine s_asg ?_ | refine s_ret ?_ | refine s_if ?_ | refine s_expr ?_ | refine s_next ?_ | refine s_brk ?_ | refine s_cont ?_ | refine s_for ?_ | refine s_while ?_
  | refine p_c ?_ | refine p_bin ?_ | refine p_as ?_ | refine p_cons ?_ | refine p_nil ?_ | refine p_un ?_ | refine p_call ?_ | refine p_if ?_ | refine p_own ?_
  | refine p_keep ?_ | refine p_tru ?_ | refine p_and ?_ | refine p_or ?_ | refine p_not ?_ | refine p_val ?_ | refine p_rand ?_ | refine p_ror ?_ | refine p_rnot ?_ | refine p_chain ?_ | refine p_bif ?_
  | refine o_add ?_ | refine o_sub ?_ | refine o_ltU ?_ | refine o_leU ?_ | refine o_gtU ?_ | refine o_geU ?_ | refine o_neg ?_ | refine o_eqI ?_ | refine o_neI ?_ | refine o_abs ?_ | refine o_tru ?_ | refine p_true ?_ | refine p_false ?_
  | refine o_lenT ?_ | refine o_lenL ?_ | refine o_ix0 ?_ | refine o_ix1 ?_ | refine o_ix2 ?_ | refine o_ix0L ?_ | refine o_ix1L ?_ | refine o_ix2L ?_
  | refine s_par ?_ | refine p_yes ?_ | refine p_seq ?_ | refine s_gnil ?_ | refine s_gcons ?_ | refine s_gtux ?_ | refine s_gtupl ?_ | refine p_onone ?_ | refine p_osome ?_ | refine p_get2 ?_ | refine s_putU ?_ | refine p_sortIt ?_)
local macro_rules | `(tactic| walk_at "2") => `(tactic| first
  | walk_at "1"
  | (with_reducible refine p_var2 ?_)
  | ((with_reducible refine s_name ?_ ?_); (· exact Nat.le_of_ble_eq_true rfl); dsimp only [List.set_cons_zero, List.set_cons_succ])
  | (with_reducible refine p_tup ?_) | (with_reducible refine p_lst ?_) | ((with_reducible refine ⟨?_, ?_⟩); (· exact Nat.le_of_ble_eq_true rfl))
  | ((with_reducible refine p_ex2 (x := ?_) (y := ?_) ?_ ?_); rotate_left; rotate_left; (· rfl); refine ⟨?_, ?_, ?_⟩; (· exact Nat.le_of_ble_eq_true rfl); (· exact Nat.le_of_ble_eq_true rfl); dsimp only [List.set_cons_zero, List.set_cons_succ])
  | ((with_reducible refine p_isT ?_ ?_); (· rfl)) | ((with_reducible refine p_isF ?_ ?_); (· rfl))
  | ((with_reducible refine p_ex (x := ?_) ?_ ?_); rotate_left; (· rfl)))
local macro_rules | `(tactic| walk_at "3") => `(tactic| repeat walk_at "2")
section
variable {n pl A V L T c j : Nat} {rows : List (Kind × Rat)} {u : D} {S : Sto} {vals : List (Str × Int)}
theorem at_c (h : Rc n pl A V L rows) (hA : 1 ≤ A) (c : Nat) (hT : rows.length ≤ T) : ∀ p ∈ atT rows c, MonO n p.1 ∧ QC (V * (2 * A) ^ c * T) L p.2 := fun p hp => by
  have fin := onc_end (onc_start (T := T) (by unfold atL; rw [List.length_map]; exact hT) fun x hx => (at_qc h hA c x hx).2)
  exact ⟨(at_ok h hA c hT).m p hp, onc_qc fin p (rows_nz p hp).1⟩
theorem lin_qc {W : Nat} (hw : ∀ m, MonO n m → (mv vals m).natAbs ≤ W) : ∀ {rows : List (Mono × Rat)}, (∀ p ∈ rows, MonO n p.1 ∧ QC V L p.2) → QC (V * W * rows.length) L (lin (mvR vals) rows)
  | [], _ => qc_mono (qc_zero L) (Nat.zero_le _)
  | p :: r, h => by
    obtain ⟨h1, h2⟩ := h p List.mem_cons_self
    have ih := lin_qc hw (rows := r) fun q hq => h q (List.mem_cons_of_mem _ hq)
    rw [lin_cons, List.length_cons, Nat.mul_succ, Nat.add_comm]
    exact qc_add (qc_int h2 (hw p.1 h1)) ih
end
structure VAll (vals : List (Str × Int)) : Prop where
  all : ∀ x, nice x = true → ∃ v, getT vals x = some v
  le : ∀ x, (valOf vals x).natAbs ≤ 10 ^ 12
  nd : ND vals
theorem vok_of {vals : List (Str × Int)} (h : VAll vals) {n : Nat} {rows : List (Mono × Rat)} (hm : ∀ p ∈ rows, MonO n p.1) : VOk (10 ^ 12) vals rows := ⟨fun p hp y hy => h.all _ ((hm p hp).nc y hy).1, h.le, by decide, by decide +kernel⟩
/-! ### the values are drawn -/
def VPart (vals : List (Str × Int)) (done : List Str) : Prop := (∀ x ∈ done, ∃ v, getT vals x = some v) ∧ (∀ x v, getT vals x = some v → v.natAbs ≤ 10 ^ 12) ∧ vals.length ≤ done.length ∧ ND vals
theorem vpart_put {vals : List (Str × Int)} {done : List Str} (h : VPart vals done) (x : Str) {v : Int} (hv : v.natAbs ≤ 10 ^ 12) : VPart (putT vals x v) (done ++ [x]) := by
  refine ⟨fun y hy => ?_, fun y w e => ?_, ?_, nd_put h.2.2.2 _ _⟩
  · rw [getT_put]
    by_cases z : y = x
    · rw [if_pos z]; exact ⟨v, rfl⟩
    · rw [if_neg z]
      rcases List.mem_append.mp hy with hy | hy
      · exact h.1 y hy
      · exact absurd (List.mem_singleton.mp hy) z
  · rw [getT_put] at e
    by_cases z : y = x
    · rw [if_pos z] at e; cases e; exact hv
    · rw [if_neg z] at e; exact h.2.1 y w e
  · have h3 := h.2.2.1
    rw [List.length_append]
    unfold putT
    split
    · have : ∀ m : List (Str × Int), (replT m x v).length = m.length := fun m => by
        induction m with
        | nil => rfl
        | cons p r ih =>
          obtain ⟨k, w⟩ := p
          show (if k = x then (k, v) :: replT r x v else (k, w) :: replT r x v).length = _
          split <;> rw [List.length_cons, List.length_cons, ih]
      rw [this]
      omega
    · rw [List.length_append]
      show _ + 1 ≤ _ + 1
      omega
theorem vall_of {vals : List (Str × Int)} (h : VPart vals fiveB) : VAll vals := by
  refine ⟨fun x hx => h.1 x ?_, fun x => ?_, h.2.2.2⟩
  · unfold nice at hx
    exact of_decide_eq_true (Bool.and_eq_true_iff.mp hx).2
  · unfold valOf
    cases e : getT vals x with
    | none => decide
    | some v => exact h.2.1 x v e
theorem values_spec {c : Nat} {S : Sto} (h : Sta c S) (hc : c < 2 ^ 39) : (m__law_values [.ptr 1] S).post fun d S' => ∃ vals u, d = .ptr S.length ∧ S'[S.length]? = some u ∧ S'.length = S.length + 1 ∧ IsDic u vals ∧ VAll vals ∧ Sta (c + 20) S' ∧ ∀ k, 2 ≤ k → k < S.length → S'[k]? = S[k]? := by
  refine m_defK ?_
  show (b__law_values [some (.ptr 1), none, none] S).post _ _ _ _
  unfold b__law_values
  have l2 := h.len
  have h1 : Sta c (S ++ [.dct []]) := h.app rfl
  walk_at "3"
  refine .inl ⟨fiveB.map D.str, rfl, ?_⟩
  refine s_forT D.str (fun xs δ S2 => ∃ (done : List Str) (u : D) (vals : List (Str × Int)) (o2 : Option D), done ++ xs = fiveB ∧ Sta (c + 4 * done.length) S2 ∧ S2.length = S.length + 1 ∧ S2[S.length]? = some u ∧ IsDic u vals ∧ VPart vals done ∧ (∀ k, 2 ≤ k → k < S.length → S2[k]? = S[k]?) ∧ δ = [some (.ptr 1), some (.ptr S.length), o2]) ?_ ?_ _ _ _ ⟨[], _, [], _, rfl, h1, by simp, get_app, isDic_nil, ⟨(fun _ z => nomatch z), (fun _ _ z => nomatch z), Nat.le_refl _, List.nodup_nil⟩, fun k _ hk => List.getElem?_append_left hk, rfl⟩
  · rintro x xs δ S2 ⟨done, u, vals, o2, hd, hs, hl, hk, hu, hp, hr, rfl⟩
    have hd5 : done.length ≤ 4 := by
      have := congrArg List.length hd
      rw [List.length_append, List.length_cons] at this
      have : fiveB.length = 5 := rfl
      omega
    walk_at "3"
    refine (draw_spec hs (by omega) 9 (by decide) (by decide)).mono ?_
    rintro _ S3 ⟨a, rfl, a0, a1, g1⟩
    walk_at "3"
    refine (draw_spec g1.sta (by omega) 100 (by decide) (by decide)).mono ?_
    rintro _ S4 ⟨b, rfl, b0, b1, g2⟩
    walk_at "3"
    refine pow6 (δ := []) (n := 12) (by decide) ?_
    walk_at "3"
    refine (draw_spec g2.sta (by omega) (10 ^ 12) (by decide) (by decide)).mono ?_
    rintro _ S5 ⟨d, rfl, d0, d1, g3⟩
    walk_at "3"
    refine (of_spec g3.sta (by omega) (xs := [.int 0, .int 1, .int (-1), .int a, .int (0 - b), .int d]) (by simp) (by simp) (fun x hx => by
      have : ∃ i, x = .int i := by
        simp only [List.mem_cons, List.not_mem_nil, or_false] at hx
        rcases hx with rfl | rfl | rfl | rfl | rfl | rfl <;> exact ⟨_, rfl⟩
      obtain ⟨i, rfl⟩ := this
      rfl)).mono ?_
    rintro e S6 ⟨he, g4⟩
    have he : ∃ i : Int, e = .int i ∧ i.natAbs ≤ 10 ^ 12 := by
      simp only [List.mem_cons, List.not_mem_nil, or_false] at he
      rcases he with rfl | rfl | rfl | rfl | rfl | rfl
      all_goals first | exact ⟨_, rfl, by decide⟩ | exact ⟨_, rfl, by omega⟩
    obtain ⟨i, rfl, hi⟩ := he
    have gg := ((g1.trans g2).trans g3).trans g4
    have hk6 : S6[S.length]? = some u := by rw [gg.rest _ l2]; exact hk
    walk_at "3"
    have hvl : vals.length < sizeLine := by
      have sl : 1000 ≤ sizeLine := by decide
      have := hp.2.2.1
      omega
    obtain ⟨u', e', hu'⟩ := dic_putU hu hvl x i
    refine ⟨S.length, u, u', rfl, hk6, e', ?_⟩
    have hl6 : S6.length = S.length + 1 := gg.len.trans hl
    obtain ⟨ns, rs, a', q0, q1, q2⟩ := gg.sta.ex
    refine ⟨done ++ [x], u', _, _, by rw [List.append_assoc]; exact hd, ⟨⟨ns, rs, a', ?_, ?_, q2.1, q2.2.1, ?_⟩, sane_set gg.sta.sane (isDic_closed hu' _)⟩, by rw [List.length_set]; exact hl6, List.getElem?_set_self (by omega), hu', vpart_put hp x hi, fun k k1 k2 => ?_, rfl⟩
    · rw [List.getElem?_set_ne (by omega)]; exact q0
    · rw [List.getElem?_set_ne (by omega)]; exact q1
    · rw [List.length_append]
      have := q2.2.2
      show a' ≤ ((c + 4 * (done.length + 1) : Nat) : Int)
      omega
    · rw [List.getElem?_set_ne (by omega), gg.rest k k1]; exact hr k k1 k2
  · rintro δ S2 ⟨done, u, vals, o2, hd, hs, hl, hk, hu, hp, hr, rfl⟩
    rw [List.append_nil] at hd
    subst hd
    walk_at "3"
    exact ⟨vals, u, rfl, hk, hl, hu, vall_of hp, hs.le (by show c + 4 * 5 ≤ c + 20; omega), hr⟩
end DL

set_option Elab.async false
set_option linter.all false
set_option maxRecDepth 100000
set_option maxHeartbeats 4000000
set_option autoImplicit false
/-! k19: a form at a count. -/
namespace DL
open PySem L2
open Emb
local macro_rules | `(tactic| walk_at "1") => `(tactic| with_reducible first
  | refine s_seq ?_ | refine s_asg ?_ | refine s_ret ?_ | refine s_if ?_ | refine s_expr ?_ | refine s_next ?_ | refine s_brk ?_ | refine s_cont ?_ | refine s_for ?_ | refine s_while ?_
  | refine p_c ?_ | refine p_bin ?_ | refine p_as ?_ | refine p_cons ?_ | refine p_nil ?_ | refine p_un ?_ | refine p_call ?_ | refine p_if ?_ | refine p_own ?_
  | refine p_keep ?_ | refine p_tru ?_ | refine p_and ?_ | refine p_or ?_ | refine p_not ?_ | refine p_val ?_ | refine p_rand ?_ | refine p_ror ?_ | refine p_rnot ?_ | refine p_chain ?_ | refine p_bif ?_
  | refine o_add ?_ | refine o_sub ?_ | refine o_ltU ?_ | refine o_leU ?_ | refine o_gtU ?_ | refine o_geU ?_ | refine o_neg ?_ | refine o_eqI ?_ | refine o_neI ?_ | refine o_abs ?_ | refine o_tru ?_ | refine p_true ?_ | refine p_false ?_
  | refine o_lenT ?_ | refine o_lenL ?_ | refine o_ix0 ?_ | refine o_ix1 ?_ | refine o_ix2 ?_ | refine o_ix0L ?_ | refine o_ix1L ?_ | refine o_ix2L ?_
  | refine s_par ?_ | refine p_yes ?_ | refine p_seq ?_ | refine s_gnil ?_ | refine s_gcons ?_ | refine s_gtux ?_ | refine s_gtupl ?_ | refine p_onone ?_ | refine p_osome ?_ | refine p_get2 ?_ | refine s_putU ?_ | refine p_sortIt ?_)
local macro_rules | `(tactic| walk_at "2") => `(tactic| first
  | walk_at "1"
  | (with_reducible refine p_var2 ?_)
  | ((with_reducible refine s_name ?_ ?_); (· exact Nat.le_of_ble_eq_true rfl); dsimp only [List.set_cons_zero, List.set_cons_succ])
  | (with_reducible refine p_tup ?_) | (with_reducible refine p_lst ?_) | ((with_reducible refine ⟨?_, ?_⟩); (· exact Nat.le_of_ble_eq_true rfl))
  | ((with_reducible refine p_ex2 (x := ?_) (y := ?_) ?_ ?_); rotate_left; rotate_left; (· rfl); refine ⟨?_, ?_, ?_⟩; (· exact Nat.le_of_ble_eq_true rfl); (· exact Nat.le_of_ble_eq_true rfl); dsimp only [List.set_cons_zero, List.set_cons_succ])
  | ((with_reducible refine p_isT ?_ ?_); (· rfl)) | ((with_reducible refine p_isF ?_ ?_); (· rfl))
  | ((with_reducible refine p_ex (x := ?_) ?_ ?_); rotate_left; (· rfl)))
local macro_rules | `(tactic| walk_at "3") => `(tactic| repeat walk_at "2")
theorem lbZ {X L : Nat} (hL : L ≤ 60 ^ 6) {Z : Nat} (h : X * 60 ^ 6 ≤ Z) : X * L ≤ Z := Nat.le_trans (Nat.mul_le_mul_left _ hL) h
theorem pw61 {V A T W L n : Nat} (hA : 1 ≤ A) (h : n ≤ 61) : V * (2 * A) ^ n * T * W * T * L ≤ V * (2 * A) ^ 61 * T * W * T * L :=
  Nat.mul_le_mul_right _ (Nat.mul_le_mul_right _ (Nat.mul_le_mul_right _ (Nat.mul_le_mul_right _ (Nat.mul_le_mul_left _ (Nat.pow_le_pow_right (by omega) h)))))
/-- all that is asked of a form at a count -/
structure ValF (vals : List (Str × Int)) (rows : List (Kind × Rat)) (c j : Nat) (S : Sto) : Prop where
  its : m__law_at [toD rows, .int c] S = .ok (toD (atT rows c)) S
  mine : m_at_count [toD rows, .int c] S = .ok (toD (atT rows c)) S
  wrt : m__law_worth [toD (atT rows c), .ptr j] S = .ok (toD (worth vals rows c)) S
  plain : m_plain_value [toD (atT rows c), .ptr j] S = .ok (toD (worth vals rows c)) S
  form : m_form_value [toD rows, .ptr j, .int c] S = .ok (toD (worth vals rows c)) S
theorem valF {L c j : Nat} {rows : List (Kind × Rat)} {u : D} {S : Sto} {vals : List (Str × Int)} (r : Rc 4 3 (10 ^ 10) (10 ^ 21) L rows) (l : rows.length ≤ 6) (L1 : 1 ≤ L) (L2 : L ≤ 60 ^ 6) (hS : Sane S) (hu : IsDic u vals) (hj : S[j]? = some u) (hv : VAll vals) (hc : c ≤ 61) :
    ValF vals rows c j S ∧ Shw (toD (atT rows c)) (py (atT rows c)).shown ∧ Shw (toD (worth vals rows c)) (py (worth vals rows c)).shown := by
  have hB : 10 ^ 21 * (2 * 10 ^ 10) ^ c * 6 * (10 ^ 12) ^ 4 * 6 * L ≤ 10 ^ 1000 := Nat.le_trans (pw61 (by decide) hc) (lbZ L2 (by decide +kernel))
  have hW1 : 1 ≤ (10 ^ 12) ^ 4 := Nat.pow_pos (by decide)
  have hX : 1 ≤ 10 ^ 21 * (2 * 10 ^ 10) ^ c * 6 := Nat.mul_pos (Nat.mul_pos (by decide) (Nat.pow_pos (by decide))) (by decide)
  have hB1 : 10 ^ 21 * (2 * 10 ^ 10) ^ c * 6 * L ≤ 10 ^ 1000 := Nat.le_trans (Nat.mul_le_mul_right _ (Nat.le_trans (Nat.le_mul_of_pos_right _ hW1) (Nat.le_mul_of_pos_right _ (by decide)))) hB
  have hc1 := at_c r (by decide) c l
  have ha := at_ok r (by decide) c l
  have vo := vok_of hv (rows := atT rows c) fun p hp => (hc1 p hp).1
  have e1 := at_count_spec (T := 6) r (by decide) (by decide) (by decide) (by omega) (by decide) L1 l (by decide) (by decide) hB1 S hS
  have e2 := plain_value_spec (B := 10 ^ 12) (T := 6) hS hu hj vo hc1 (by decide) hX L1 ha.len (by decide) (ten_two hB)
  have e3 := lworth_spec (B := 10 ^ 12) (T := 6) hS hu hj vo hc1 (by decide) hX L1 ha.len (by decide) (ten_two hB)
  have q := lin_qc (vals := vals) (W := (10 ^ 12) ^ 4) (fun m hm => mv_bound2 (by decide) hv.le hm) hc1
  have rb : RB' (10 ^ 1000) (worth vals rows c) := rb_mono (qc_rb (Nat.mul_pos (Nat.mul_pos hX hW1) (by decide)) L1 (qc_mono q (Nat.mul_le_mul_left _ ha.len))) hB
  refine ⟨⟨lat_spec (T := 6) r (by decide) (by decide) (by decide) (by omega) (by decide) L1 l (by decide) (by decide) hB1 S hS, e1, e3, e2, ?_⟩, ?_, shw_emb (fitE_rat rb) (by decide) (by decide)⟩
  · refine m_defS hS (cl _ _) ?_
    show (b_form_value [some (toD rows), some (.ptr j), some (.int c)] S).post _ _ _ _
    unfold b_form_value
    walk_at "3"
    refine Res.post.of_eq e1 ?_
    walk_at "3"
    exact Res.post.of_eq e2 ⟨rfl, rfl⟩
  · exact shw_rowsM (fun p hp => mono12 (ha.m p hp) (by decide)) (fun p hp => rb_mono (ha.rb (Nat.mul_pos (by decide) (Nat.pow_pos (by decide))) L1 (by decide) p hp) hB1) (Nat.le_trans ha.len (by decide))
end DL

set_option Elab.async false
set_option linter.all false
set_option maxRecDepth 100000
set_option maxHeartbeats 4000000
set_option autoImplicit false
/-! k19: the far places. -/
namespace DL
open PySem L2
open Emb
local macro_rules | `(tactic| walk_at "1") => `(tactic| with_reducible first
  | refine s_seq ?_ | refine s_asg ?_ | refine s_ret ?_ | refine s_if ?_ | refine s_expr ?_ | refine s_next ?_ | refine s_brk ?_ | refine s_cont ?_ | refine s_for ?_ | refine s_while ?_
  | refine p_c ?_ | refine p_bin ?_ | refine p_as ?_ | refine p_cons ?_ | refine p_nil ?_ | refine p_un ?_ | refine p_call ?_ | refine p_if ?_ | refine p_own ?_
  | refine p_keep ?_ | refine p_tru ?_ | refine p_and ?_ | refine p_or ?_ | refine p_not ?_ | refine p_val ?_ | refine p_rand ?_ | refine p_ror ?_ | refine p_rnot ?_ | refine p_chain ?_ | refine p_bif ?_
  | refine o_add ?_ | refine o_sub ?_ | refine o_ltU ?_ | refine o_leU ?_ | refine o_gtU ?_ | refine o_geU ?_ | refine o_neg ?_ | refine o_eqI ?_ | refine o_neI ?_ | refine o_abs ?_ | refine o_tru ?_ | refine p_true ?_ | refine p_false ?_
  | refine o_lenT ?_ | refine o_lenL ?_ | refine o_ix0 ?_ | refine o_ix1 ?_ | refine o_ix2 ?_ | refine o_ix0L ?_ | refine o_ix1L ?_ | refine o_ix2L ?_
  | refine s_par ?_ | refine p_yes ?_ | refine p_seq ?_ | refine s_gnil ?_ | refine s_gcons ?_ | refine s_gtux ?_ | refine s_gtupl ?_ | refine p_onone ?_ | refine p_osome ?_ | refine p_get2 ?_ | refine s_putU ?_ | refine p_sortIt ?_)
local macro_rules | `(tactic| walk_at "2") => `(tactic| first
  | walk_at "1"
  | (with_reducible refine p_var2 ?_)
  | ((with_reducible refine s_name ?_ ?_); (· exact Nat.le_of_ble_eq_true rfl); dsimp only [List.set_cons_zero, List.set_cons_succ])
  | (with_reducible refine p_tup ?_) | (with_reducible refine p_lst ?_) | ((with_reducible refine ⟨?_, ?_⟩); (· exact Nat.le_of_ble_eq_true rfl))
  | ((with_reducible refine p_ex2 (x := ?_) (y := ?_) ?_ ?_); rotate_left; rotate_left; (· rfl); refine ⟨?_, ?_, ?_⟩; (· exact Nat.le_of_ble_eq_true rfl); (· exact Nat.le_of_ble_eq_true rfl); dsimp only [List.set_cons_zero, List.set_cons_succ])
  | ((with_reducible refine p_isT ?_ ?_); (· rfl)) | ((with_reducible refine p_isF ?_ ?_); (· rfl))
  | ((with_reducible refine p_ex (x := ?_) ?_ ?_); rotate_left; (· rfl)))
local macro_rules | `(tactic| walk_at "3") => `(tactic| repeat walk_at "2")
abbrev ZF : Nat := 2 ^ 120 * (10 ^ 10) ^ 80
theorem tv_far {p n : Nat} {b : Int} (hb : b.natAbs ≤ 10 ^ 10) (hn : n ≤ 120) (h : n ≤ p + 80) : (tv p b n).natAbs ≤ ZF := by
  unfold tv
  split
  · rw [Int.natAbs_mul, Int.natAbs_pow]
    exact Nat.mul_le_mul (Nat.le_trans (bin_le n p) (Nat.pow_le_pow_right (by decide) hn)) (Nat.le_trans (Nat.pow_le_pow_left hb _) (Nat.pow_le_pow_right (by decide) (by omega)))
  · exact Nat.zero_le _
def third : Rat := ⟨1, 3, by decide, by decide⟩
theorem third_c : QC 1 3 third := qc_self (V := 1) (by decide)
def xTop : Mono := [("x", 12)]
theorem xTop_ok : MonO 12 xTop := ⟨List.pairwise_singleton _ _, (fun p hp => by rw [List.mem_singleton.mp hp]; exact ⟨by decide +kernel, by decide⟩), by decide⟩
theorem far_ok (p c : Nat) (b : Int) (hp : p ≤ 99) (hb : b.natAbs ≤ 10 ^ 10) (hc : c ≤ 120) (h : c ≤ p + 80) : Shw (toD (atT [(Kind.mk xTop (p : Int) b, third)] c)) (py (atT [(Kind.mk xTop (p : Int) b, third)] c)).shown ∧ ∀ S, Sane S →
    m_at_count [toD [(Kind.mk xTop (p : Int) b, third)], .int c] S = .ok (toD (atT [(Kind.mk xTop (p : Int) b, third)] c)) S ∧ m__law_at [toD [(Kind.mk xTop (p : Int) b, third)], .int c] S = .ok (toD (atT [(Kind.mk xTop (p : Int) b, third)] c)) S := by
  have r : Rc 12 99 (10 ^ 10) 1 3 [(Kind.mk xTop (p : Int) b, third)] := ⟨(fun q hq => by rw [List.mem_singleton.mp hq]; exact xTop_ok), (fun q hq => by rw [List.mem_singleton.mp hq]; show (0 : Int) ≤ (p : Int); omega), (fun q hq => by rw [List.mem_singleton.mp hq]; show (p : Int) ≤ ((99 : Nat) : Int); omega), (fun q hq => by rw [List.mem_singleton.mp hq]; exact hb), (fun q hq => by rw [List.mem_singleton.mp hq]; exact third_c)⟩
  have hZ : ∀ q ∈ [(Kind.mk xTop (p : Int) b, third)], (tK q.1 c).natAbs ≤ ZF := fun q hq => by
    rw [List.mem_singleton.mp hq]
    exact tv_far hb hc h
  have hZ1 : 1 ≤ ZF := by decide +kernel
  have hB : 1 * ZF * 1 * 3 ≤ 10 ^ 1000 := by decide +kernel
  have ok := at_okZ (T := 1) r hZ (Nat.le_refl _)
  refine ⟨shw_rowsM (fun q hq => ok.m q hq) (fun q hq => rb_mono (ok.rb (by decide +kernel) (by decide) (by decide) q hq) hB) (Nat.le_trans ok.len (by decide)), fun S hS => ⟨?_, ?_⟩⟩
  · exact at_count_specZ (T := 1) r hZ hZ1 (by decide) (by decide) (by omega) (by decide) (by decide) (Nat.le_refl _) (by decide) (by decide) hB S hS
  · exact lat_specZ (T := 1) r hZ hZ1 (by decide) (by decide) (by omega) (by decide) (by decide) (Nat.le_refl _) (by decide) (by decide) hB S hS
end DL

set_option Elab.async false
set_option linter.all false
set_option maxRecDepth 100000
set_option maxHeartbeats 4000000
set_option autoImplicit false
/-! k19: the law puts the boxes together. -/
namespace DL
open PySem L2
open Emb
local macro_rules | `(tactic| walk_at "1") => `(tactic| with_reducible first
  | refine s_seq ?_ | refine s_asg ?_ | refine s_ret ?_ | refine s_if ?_ | refine s_expr ?_ | refine s_next ?_ | refine s_brk ?_ | refine s_cont ?_ | refine s_for ?_ | refine s_while ?_
  | refine p_c ?_ | refine p_bin ?_ | refine p_as ?_ | refine p_cons ?_ | refine p_nil ?_ | refine p_un ?_ | refine p_call ?_ | refine p_if ?_ | refine p_own ?_
  | refine p_keep ?_ | refine p_tru ?_ | refine p_and ?_ | refine p_or ?_ | refine p_not ?_ | refine p_val ?_ | refine p_rand ?_ | refine p_ror ?_ | refine p_rnot ?_ | refine p_chain ?_ | refine p_bif ?_
  | refine o_add ?_ | refine o_sub ?_ | refine o_ltU ?_ | refine o_leU ?_ | refine o_gtU ?_ | refine o_geU ?_ | refine o_neg ?_ | refine o_eqI ?_ | refine o_neI ?_ | refine o_abs ?_ | refine o_tru ?_ | refine p_true ?_ | refine p_false ?_
  | refine o_lenT ?_ | refine o_lenL ?_ | refine o_ix0 ?_ | refine o_ix1 ?_ | refine o_ix2 ?_ | refine o_ix0L ?_ | refine o_ix1L ?_ | refine o_ix2L ?_
  | refine s_par ?_ | refine p_yes ?_ | refine p_seq ?_ | refine s_gnil ?_ | refine s_gcons ?_ | refine s_gtux ?_ | refine s_gtupl ?_ | refine p_onone ?_ | refine p_osome ?_ | refine p_get2 ?_ | refine s_putU ?_ | refine p_sortIt ?_)
local macro_rules | `(tactic| walk_at "2") => `(tactic| first
  | walk_at "1"
  | (with_reducible refine p_var2 ?_)
  | ((with_reducible refine s_name ?_ ?_); (· exact Nat.le_of_ble_eq_true rfl); dsimp only [List.set_cons_zero, List.set_cons_succ])
  | (with_reducible refine p_tup ?_) | (with_reducible refine p_lst ?_) | ((with_reducible refine ⟨?_, ?_⟩); (· exact Nat.le_of_ble_eq_true rfl))
  | ((with_reducible refine p_ex2 (x := ?_) (y := ?_) ?_ ?_); rotate_left; rotate_left; (· rfl); refine ⟨?_, ?_, ?_⟩; (· exact Nat.le_of_ble_eq_true rfl); (· exact Nat.le_of_ble_eq_true rfl); dsimp only [List.set_cons_zero, List.set_cons_succ])
  | ((with_reducible refine p_isT ?_ ?_); (· rfl)) | ((with_reducible refine p_isF ?_ ?_); (· rfl))
  | ((with_reducible refine p_ex (x := ?_) ?_ ?_); rotate_left; (· rfl)))
local macro_rules | `(tactic| walk_at "3") => `(tactic| repeat walk_at "2")
theorem names_post {n j : Nat} {rows : List (Kind × Rat)} {S0 S : Sto} (h : ∀ p ∈ rows, MonO n p.1.m) (hl : n * rows.length < 64) (hb : BoxSt j S0 S []) {o0 o1 o2 o4 o6 o7 o8 o9 o10 o11 o12 o13 : Option D} {N B C : Sl → Sto → Prop} {T : D → Sto → Prop}
    (hN : ∀ S' o6 o7, BoxSt j S0 S' (boxT rows) → (boxT rows).length < 64 → N [o0, o1, o2, some (toD rows), o4, some (.ptr j), o6, o7, o8, o9, o10, o11, o12, o13] S') :
    (sFor (rSeq (rVar 3)) (gTup (gCons (gName 6) (gCons (gName 7) gNil))) (sExpr (rUpd (rVar 5) (rOwn (rAs gDict (rCons (rBin gIx (rVar 6) (rC (.int 0))) rNil))))) [o0, o1, o2, some (toD rows), o4, some (.ptr j), o6, o7, o8, o9, o10, o11, o12, o13] S).post N T B C := by
  have sl : 3000 ≤ sizeLine := by decide
  have bp := box_part (n := n) (rows := rows) (kvs := []) h (fun _ z => nomatch z)
  have bl : (boxT rows).length < 64 := by have := bp.2; show (boxF [] rows).length < 64; simp only [List.length_nil] at this; omega
  walk_at "3"
  refine .inr (.inl ⟨rows.map toD, rfl, ?_⟩)
  refine s_forT toD (fun xs δ S2 => ∃ (kvs : List (Str × Int)) (o6 o7 : Option D), BoxSt j S0 S2 kvs ∧ (∀ p ∈ xs, p ∈ rows) ∧ boxF kvs xs = boxT rows ∧ kvs.length + n * xs.length < 64 ∧ δ = [o0, o1, o2, some (toD rows), o4, some (.ptr j), o6, o7, o8, o9, o10, o11, o12, o13]) ?_ ?_ _ _ _ ⟨[], _, _, hb, (fun _ z => z), rfl, by simpa using hl, rfl⟩
  · rintro x xs δ S2 ⟨kvs, o6, o7, hb, hin, hf, hk, rfl⟩
    have hx := h x (hin x List.mem_cons_self)
    have hm := (mono_len hx).1
    rw [List.length_cons, Nat.mul_succ] at hk
    show (gTup _ (.tup [.tup [toD x.1.m, .int x.1.p, .int x.1.b], toD x.2]) _ _).post _
    walk_at "3"
    refine upd_step (j := j) (m := x.1.m) (kvs := kvs) (fun q => p_var rfl q) (fun q => ?_) hb.dic (box_row hx) (by omega) ?_
    · walk_at "3"
      exact q
    · refine ⟨mergeT kvs x.1.m, _, _, boxst_upd hb, fun p hp => hin p (List.mem_cons_of_mem _ hp), hf, ?_, rfl⟩
      have := merge_len x.1.m kvs
      omega
  · rintro δ S2 ⟨kvs, o6, o7, hb, hin, hf, hk, rfl⟩
    have e : kvs = boxT rows := hf
    subst e
    exact hN _ _ _ hb bl
end DL

set_option Elab.async false
set_option linter.all false
set_option maxRecDepth 100000
set_option maxHeartbeats 4000000
set_option autoImplicit false
/-! k19: great values. -/
namespace DL
open PySem L2
open Emb
local macro_rules | `(tactic| walk_at "1") => `(tactic| with_reducible first
  | refine s_seq ?_ | refine s_asg ?_ | refine s_ret ?_ | refine s_if ?_ | refine s_expr ?_ | refine s_next ?_ | refine s_brk ?_ | refine s_cont ?_ | refine s_for ?_ | refine s_while ?_
  | refine p_c ?_ | refine p_bin ?_ | refine p_as ?_ | refine p_cons ?_ | refine p_nil ?_ | refine p_un ?_ | refine p_call ?_ | refine p_if ?_ | refine p_own ?_
  | refine p_keep ?_ | refine p_tru ?_ | refine p_and ?_ | refine p_or ?_ | refine p_not ?_ | refine p_val ?_ | refine p_rand ?_ | refine p_ror ?_ | refine p_rnot ?_ | refine p_chain ?_ | refine p_bif ?_
  | refine o_add ?_ | refine o_sub ?_ | refine o_ltU ?_ | refine o_leU ?_ | refine o_gtU ?_ | refine o_geU ?_ | refine o_neg ?_ | refine o_eqI ?_ | refine o_neI ?_ | refine o_abs ?_ | refine o_tru ?_ | refine p_true ?_ | refine p_false ?_
  | refine o_lenT ?_ | refine o_lenL ?_ | refine o_ix0 ?_ | refine o_ix1 ?_ | refine o_ix2 ?_ | refine o_ix0L ?_ | refine o_ix1L ?_ | refine o_ix2L ?_
  | refine s_par ?_ | refine p_yes ?_ | refine p_seq ?_ | refine s_gnil ?_ | refine s_gcons ?_ | refine s_gtux ?_ | refine s_gtupl ?_ | refine p_onone ?_ | refine p_osome ?_ | refine p_get2 ?_ | refine s_putU ?_ | refine p_sortIt ?_)
local macro_rules | `(tactic| walk_at "2") => `(tactic| first
  | walk_at "1"
  | (with_reducible refine p_var2 ?_)
  | ((with_reducible refine s_name ?_ ?_); (· exact Nat.le_of_ble_eq_true rfl); dsimp only [List.set_cons_zero, List.set_cons_succ])
  | (with_reducible refine p_tup ?_) | (with_reducible refine p_lst ?_) | ((with_reducible refine ⟨?_, ?_⟩); (· exact Nat.le_of_ble_eq_true rfl))
  | ((with_reducible refine p_ex2 (x := ?_) (y := ?_) ?_ ?_); rotate_left; rotate_left; (· rfl); refine ⟨?_, ?_, ?_⟩; (· exact Nat.le_of_ble_eq_true rfl); (· exact Nat.le_of_ble_eq_true rfl); dsimp only [List.set_cons_zero, List.set_cons_succ])
  | ((with_reducible refine p_isT ?_ ?_); (· rfl)) | ((with_reducible refine p_isF ?_ ?_); (· rfl))
  | ((with_reducible refine p_ex (x := ?_) ?_ ?_); rotate_left; (· rfl)))
local macro_rules | `(tactic| walk_at "3") => `(tactic| repeat walk_at "2")
def mOne : Rat := ⟨-1, 1, by decide, by decide⟩
def plainG : List (Mono × Rat) := [([("b", 7), ("x", 5)], third), ([("x", 12)], mOne)]
theorem plainG_ok : ∀ p ∈ plainG, MonO 12 p.1 ∧ QC 1 3 p.2 := fun p hp => by
  rcases List.mem_cons.mp hp with rfl | hp
  · refine ⟨⟨?_, (fun p hp => ?_), by decide⟩, third_c⟩
    · refine List.Pairwise.cons (fun q hq => ?_) (List.pairwise_singleton _ _)
      rw [List.mem_singleton.mp hq]
      show _
      decide +kernel
    · rcases List.mem_cons.mp hp with rfl | hp
      · exact ⟨by decide +kernel, by decide⟩
      · rw [List.mem_singleton.mp hp]; exact ⟨by decide +kernel, by decide⟩
  · rw [List.mem_singleton.mp hp]
    refine ⟨xTop_ok, ?_⟩
    have h1 : QC 1 1 mOne := qc_self (V := 1) (x := mOne) (by decide)
    exact qc_scale (V := 1) (L := 1) (M := 3) (x := mOne) (by decide) (by decide) h1
theorem two_vals {a b : Int} {B : Nat} (ha : a.natAbs ≤ B) (hb : b.natAbs ≤ B) (h1 : 1 ≤ B) (h2 : B ≤ 10 ^ 101) : VOk B [("b", a), ("x", b)] plainG := by
  refine ⟨fun p hp y hy => ?_, fun x => ?_, h1, h2⟩
  · have eb : getT ([("b", a), ("x", b)] : List (Str × Int)) "b" = some a := by rw [getT_cons, if_pos rfl]
    have ex : getT ([("b", a), ("x", b)] : List (Str × Int)) "x" = some b := by rw [getT_cons, if_neg (by decide +kernel), getT_cons, if_pos rfl]
    have : y.1 = "b" ∨ y.1 = "x" := by
      rcases List.mem_cons.mp hp with rfl | hp
      · rcases List.mem_cons.mp hy with rfl | hy
        · exact .inl rfl
        · rw [List.mem_singleton.mp hy]; exact .inr rfl
      · rw [List.mem_singleton.mp hp] at hy
        rw [List.mem_singleton.mp hy]; exact .inr rfl
    rcases this with e | e
    · exact ⟨a, by rw [e]; exact eb⟩
    · exact ⟨b, by rw [e]; exact ex⟩
  · unfold valOf
    rw [getT_cons]
    split
    · exact ha
    · rw [getT_cons]
      split
      · exact hb
      · exact Nat.zero_le _
theorem worth_great {j : Nat} {S : Sto} {a b : Int} (hS : Sane S) (hj : S[j]? = some (.dct [(.str "b", .int a), (.str "x", .int b)])) (ha : a.natAbs ≤ 10 ^ 100 + 99) (hb : b.natAbs ≤ 10 ^ 100 + 99) :
    ∃ q : Rat, m_plain_value [toD plainG, .ptr j] S = .ok (toD q) S ∧ m__law_worth [toD plainG, .ptr j] S = .ok (toD q) S ∧ Shw (toD q) (py q).shown := by
  have hv := two_vals ha hb (by decide) (by decide +kernel)
  have hu : IsDic (.dct [(.str "b", .int a), (.str "x", .int b)]) ([("b", a), ("x", b)] : List (Str × Int)) := .inr (.inl ⟨rfl, rfl⟩)
  have hB : 1 * (10 ^ 100 + 99) ^ 12 * 2 * 3 ≤ 2 ^ 4000 := by decide +kernel
  have hW1 : 1 ≤ (10 ^ 100 + 99) ^ 12 := by decide +kernel
  have e1 := plain_value_spec (T := 2) hS hu hj hv plainG_ok (Nat.le_refl 12) (by decide) (by decide) (Nat.le_refl 2) (by decide) hB
  have e2 := lworth_spec (T := 2) hS hu hj hv plainG_ok (Nat.le_refl 12) (by decide) (by decide) (Nat.le_refl 2) (by decide) hB
  have q := lin_qc (vals := [("b", a), ("x", b)]) (W := (10 ^ 100 + 99) ^ 12) (fun m hm => mv_bound2 hv.b1 hv.le hm) plainG_ok
  have rb : RB' (2 ^ 4000) (lin (mvR [("b", a), ("x", b)]) plainG) := rb_mono (qc_rb (Nat.mul_pos (Nat.mul_pos (by decide) hW1) (by decide)) (by decide) q) hB
  have p1 : 2 ^ 4000 < 10 ^ 4000 := Nat.pow_lt_pow_left (by decide) (by decide)
  exact ⟨_, e1, e2, shw_ratW (Nat.lt_of_le_of_lt rb.1 p1) (Nat.lt_of_le_of_lt rb.2 p1)⟩
end DL

set_option Elab.async false
set_option linter.all false
set_option maxRecDepth 100000
set_option maxHeartbeats 4000000
set_option autoImplicit false
/-! k19: the great ones are right. -/
namespace DL
open PySem L2
open Emb
local macro_rules | `(tactic| walk_at "1") => `(tactic| with_reducible first
  | refine s_seq ?_ | refine s_asg ?_ | refine s_ret ?_ | refine s_if ?_ | refine s_expr ?_ | refine s_next ?_ | refine s_brk ?_ | refine s_cont ?_ | refine s_for ?_ | refine s_while ?_
  | refine p_c ?_ | refine p_bin ?_ | refine p_as ?_ | refine p_cons ?_ | refine p_nil ?_ | refine p_un ?_ | refine p_call ?_ | refine p_if ?_ | refine p_own ?_
  | refine p_keep ?_ | refine p_tru ?_ | refine p_and ?_ | refine p_or ?_ | refine p_not ?_ | refine p_val ?_ | refine p_rand ?_ | refine p_ror ?_ | refine p_rnot ?_ | refine p_chain ?_ | refine p_bif ?_
  | refine o_add ?_ | refine o_sub ?_ | refine o_ltU ?_ | refine o_leU ?_ | refine o_gtU ?_ | refine o_geU ?_ | refine o_neg ?_ | refine o_eqI ?_ | refine o_neI ?_ | refine o_abs ?_ | refine o_tru ?_ | refine p_true ?_ | refine p_false ?_
  | refine o_lenT ?_ | refine o_lenL ?_ | refine o_ix0 ?_ | refine o_ix1 ?_ | refine o_ix2 ?_ | refine o_ix0L ?_ | refine o_ix1L ?_ | refine o_ix2L ?_
  | refine s_par ?_ | refine p_yes ?_ | refine p_seq ?_ | refine s_gnil ?_ | refine s_gcons ?_ | refine s_gtux ?_ | refine s_gtupl ?_ | refine p_onone ?_ | refine p_osome ?_ | refine p_get2 ?_ | refine s_putU ?_ | refine p_sortIt ?_)
local macro_rules | `(tactic| walk_at "2") => `(tactic| first
  | walk_at "1"
  | (with_reducible refine p_var2 ?_)
  | ((with_reducible refine s_name ?_ ?_); (· exact Nat.le_of_ble_eq_true rfl); dsimp only [List.set_cons_zero, List.set_cons_succ])
  | (with_reducible refine p_tup ?_) | (with_reducible refine p_lst ?_) | ((with_reducible refine ⟨?_, ?_⟩); (· exact Nat.le_of_ble_eq_true rfl))
  | ((with_reducible refine p_ex2 (x := ?_) (y := ?_) ?_ ?_); rotate_left; rotate_left; (· rfl); refine ⟨?_, ?_, ?_⟩; (· exact Nat.le_of_ble_eq_true rfl); (· exact Nat.le_of_ble_eq_true rfl); dsimp only [List.set_cons_zero, List.set_cons_succ])
  | ((with_reducible refine p_isT ?_ ?_); (· rfl)) | ((with_reducible refine p_isF ?_ ?_); (· rfl))
  | ((with_reducible refine p_ex (x := ?_) ?_ ?_); rotate_left; (· rfl)))
local macro_rules | `(tactic| walk_at "3") => `(tactic| repeat walk_at "2")
theorem mdict {a b : Int} : mergeD [] [(D.str "b", D.int a), (D.str "x", D.int b)] = [(D.str "b", D.int a), (D.str "x", D.int b)] := rfl
theorem great_spec {c : Nat} {S : Sto} (h : Sta c S) (hc : c < 2 ^ 38) : (m__law_great_right [.ptr 1] S).post fun d _ => d = .bl true := by
  have sl : 3000 ≤ sizeLine := by decide
  have l2 := h.len
  refine m_defG (c := c + 100) ?_
  show (b__law_great_right [some (.ptr 1), none, none, none, none, none, none, none, none] S).post _ _ _ _
  unfold b__law_great_right
  walk_at "3"
  refine p_disp ?_
  refine p_pairs ?_
  walk_at "3"
  refine (draw_spec h (by omega) 9 (by decide) (by decide)).mono ?_
  rintro _ S1 ⟨a, rfl, a0, a1, g1⟩
  walk_at "3"
  refine p_pairs ?_
  walk_at "3"
  refine (draw_spec g1.sta (by omega) 9 (by decide) (by decide)).mono ?_
  rintro _ S2 ⟨b, rfl, b0, b1, g2⟩
  walk_at "3"
  refine p_pairs_nil ?_
  refine ⟨rfl, ?_⟩
  rw [mdict]
  have g12 := g1.trans g2
  have h3 : Sta (c + 1 + 1) (S2 ++ [.dct [(.str "b", .int (2 + a)), (.str "x", .int (3 + b))]]) := g12.sta.app rfl
  walk_at "3"
  refine p_disp ?_
  refine p_pairs ?_
  walk_at "3"
  refine pow6 (δ := []) (n := 50) (by decide) ?_
  walk_at "3"
  refine o_powW (by decide) (by decide +kernel) ?_
  walk_at "3"
  refine p_pairs ?_
  walk_at "3"
  refine pow6 (δ := []) (n := 50) (by decide) ?_
  walk_at "3"
  refine o_powW (by decide) (by decide +kernel) ?_
  walk_at "3"
  refine (draw_spec h3 (by omega) 99 (by decide) (by decide)).mono ?_
  rintro _ S3 ⟨d, rfl, d0, d1, g3⟩
  walk_at "3"
  refine p_pairs_nil ?_
  refine ⟨rfl, ?_⟩
  rw [mdict]
  have h4 := g3.sta.app (u := .dct [(.str "b", .int (7 - (10 ^ 50) ^ 2)), (.str "x", .int ((10 ^ 50) ^ 2 + d))]) rfl
  walk_at "3"
  rw [show Int.toNat 2 = 2 from rfl]
  have l12 : S2.length = S.length := g12.len
  have l3 : S3.length = S2.length + 1 := by rw [g3.len, List.length_append]; rfl
  have k1 : (S3 ++ [D.dct [(.str "b", .int (7 - (10 ^ 50) ^ 2)), (.str "x", .int ((10 ^ 50) ^ 2 + d))]])[S2.length]? = some (.dct [(.str "b", .int (2 + a)), (.str "x", .int (3 + b))]) := by
    rw [List.getElem?_append_left (by omega), g3.rest _ (by omega)]
    exact get_app
  have k2 : (S3 ++ [D.dct [(.str "b", .int (7 - (10 ^ 50) ^ 2)), (.str "x", .int ((10 ^ 50) ^ 2 + d))]])[S3.length]? = some (.dct [(.str "b", .int (7 - (10 ^ 50) ^ 2)), (.str "x", .int ((10 ^ 50) ^ 2 + d))]) := get_app
  have k3 : (S3 ++ [D.dct [(.str "b", .int (7 - (10 ^ 50) ^ 2)), (.str "x", .int ((10 ^ 50) ^ 2 + d))]]).length = S.length + 2 := by rw [List.length_append]; show S3.length + 1 = _; omega
  have k4 : ∀ k, 2 ≤ k → k < S.length → (S3 ++ [D.dct [(.str "b", .int (7 - (10 ^ 50) ^ 2)), (.str "x", .int ((10 ^ 50) ^ 2 + d))]])[k]? = S[k]? := fun k q1 q2 => by
    rw [List.getElem?_append_left (by omega), g3.rest _ q1, List.getElem?_append_left (by omega), g12.rest _ q1]
  have e50 : ((10 : Int) ^ 50) ^ 2 = 10 ^ 100 := by decide +kernel
  rw [e50] at h4 k1 k2 k3 k4 ⊢
  generalize hS4 : S3 ++ [D.dct [(D.str "b", D.int (7 - 10 ^ 100)), (D.str "x", D.int (10 ^ 100 + d))]] = S4 at h4 k1 k2 k3 k4 ⊢
  have b1 : (7 - (10 : Int) ^ 100).natAbs ≤ 10 ^ 100 + 99 := by decide +kernel
  have b2 : ((10 : Int) ^ 100 + d).natAbs ≤ 10 ^ 100 + 99 := by
    have : (((10 : Nat) ^ 100 : Nat) : Int) = (10 : Int) ^ 100 := by decide +kernel
    generalize (10 : Nat) ^ 100 = t at *
    generalize (10 : Int) ^ 100 = t' at *
    omega
  have W : ∀ j, j = S2.length ∨ j = S3.length → ∃ q : Rat, m_plain_value [toD plainG, .ptr j] S4 = .ok (toD q) S4 ∧ m__law_worth [toD plainG, .ptr j] S4 = .ok (toD q) S4 ∧ Shw (toD q) (py q).shown := fun j hj => by
    rcases hj with rfl | rfl
    · exact worth_great h4.sane k1 (Nat.le_trans (show (2 + a).natAbs ≤ 99 by omega) (Nat.le_add_left _ _)) (Nat.le_trans (show (3 + b).natAbs ≤ 99 by omega) (Nat.le_add_left _ _))
    · exact worth_great h4.sane k2 b1 b2
  refine .inr (.inl ⟨[S2.length, S3.length].map D.ptr, rfl, ?_⟩)
  refine s_forT D.ptr (fun xs δ S' => S' = S4 ∧ (∀ x ∈ xs, x = S2.length ∨ x = S3.length) ∧ ∃ o4, δ = [some (.ptr 1), some (toD plainG), some (.ptr S2.length), some (.ptr S3.length), o4, none, none, none, none]) ?_ ?_ _ _ _ ⟨rfl, by simp, _, rfl⟩
  · rintro x xs δ S' ⟨rfl, hx, o4, rfl⟩
    obtain ⟨q, e1, e2, sh⟩ := W x (hx x List.mem_cons_self)
    walk_at "3"
    refine Res.post.of_eq e1 ?_
    walk_at "3"
    refine o_shw sh ?_
    walk_at "3"
    refine Res.post.of_eq e2 ?_
    walk_at "3"
    refine o_shw sh ?_
    refine o_neSame sh ?_
    walk_at "3"
    exact ⟨rfl, fun y hy => hx y (List.mem_cons_of_mem _ hy), _, rfl⟩
  · rintro δ S' ⟨rfl, hx, o4, rfl⟩
    walk_at "3"
    refine (of_spec h4 (by omega) (xs := [.int 40, .int 60, .int 99]) (by simp) (by simp) (fun x hx => by
      simp only [List.mem_cons, List.not_mem_nil, or_false] at hx
      rcases hx with rfl | rfl | rfl <;> rfl)).mono ?_
    rintro e S5 ⟨he, g5⟩
    have he : ∃ p : Nat, e = .int (p : Int) ∧ 40 ≤ p ∧ p ≤ 99 := by
      simp only [List.mem_cons, List.not_mem_nil, or_false] at he
      rcases he with rfl | rfl | rfl
      · exact ⟨40, rfl, by decide, by decide⟩
      · exact ⟨60, rfl, by decide, by decide⟩
      · exact ⟨99, rfl, by decide, by decide⟩
    obtain ⟨p, rfl, p1, p2⟩ := he
    walk_at "3"
    refine (base_spec g5.sta (by omega)).mono ?_
    rintro _ S6 ⟨b6, rfl, hb6, g6⟩
    have g56 := g5.trans g6
    walk_at "3"
    refine .inr (.inl ⟨[(p : Int) - 1, (p : Int), (p : Int) + 1, 120].map D.int, rfl, ?_⟩)
    refine s_forT D.int (fun xs δ S' => S' = S6 ∧ (∀ x ∈ xs, 0 ≤ x ∧ x ≤ 120 ∧ x ≤ (p : Int) + 80) ∧ ∃ o8, δ = [some (.ptr 1), some (toD plainG), some (.ptr S2.length), some (.ptr S3.length), o4, some (.int p), some (.int b6), some (toD [(Kind.mk xTop (p : Int) b6, third)]), o8]) ?_ ?_ _ _ _ ⟨rfl, fun x hx => ?_, _, rfl⟩
    · rintro x xs δ S' ⟨rfl, hx, o8, rfl⟩
      have x30 := hx x List.mem_cons_self
      obtain ⟨n, rfl⟩ : ∃ n : Nat, x = n := ⟨x.toNat, by omega⟩
      have hS := g56.sta.sane
      have e1 := term_at_spec p n b6 (by omega) (by omega) hb6 (by decide) _ hS
      have e2 := lterm_spec p n b6 (by omega) (by omega) hb6 (by decide) _ hS
      have tb := tv_far (p := p) (n := n) hb6 (by omega) (by omega)
      have sh : Shw (.int (tv p b6 n)) (py (tv p b6 n)).shown := shw_emb (κ := Int) (fitE_int (Nat.le_trans tb (by decide +kernel))) (by decide) (by decide)
      obtain ⟨sf, ef⟩ := far_ok p n b6 p2 hb6 (by omega) (by omega)
      obtain ⟨f1, f2⟩ := ef _ hS
      walk_at "3"
      refine Res.post.of_eq e1 ?_
      walk_at "3"
      refine o_shw sh ?_
      walk_at "3"
      refine Res.post.of_eq e2 ?_
      walk_at "3"
      refine o_shw sh ?_
      refine o_neSame sh ?_
      walk_at "3"
      refine Res.post.of_eq f1 ?_
      walk_at "3"
      refine o_shw sf ?_
      walk_at "3"
      refine Res.post.of_eq f2 ?_
      walk_at "3"
      refine o_shw sf ?_
      refine o_neSame sf ?_
      walk_at "3"
      exact ⟨rfl, fun y hy => hx y (List.mem_cons_of_mem _ hy), _, rfl⟩
    · rintro δ S' ⟨rfl, hx, o8, rfl⟩
      walk_at "3"
      refine ⟨rfl, ?_, rfl⟩
      have l6 : S'.length = S.length + 2 := by rw [g56.len]; exact k3
      exact go_take h.sane l2 (g56.sta.le (by omega)) (by omega) fun k q1 q2 => by rw [g56.rest k q1]; exact k4 k q1 q2
    · simp only [List.mem_cons, List.not_mem_nil, or_false] at hx
      rcases hx with rfl | rfl | rfl | rfl <;> omega
end DL

set_option Elab.async false
set_option linter.all false
set_option maxRecDepth 100000
set_option maxHeartbeats 4000000
set_option autoImplicit false
/-! k19: the law. -/
namespace DL
open PySem L2
open Emb
local macro_rules | `(tactic| walk_at "1") => `(tactic| with_reducible first
  | refine s_seq ?_ | refine s_asg ?_ | refine s_ret ?_ | refine s_if ?_ | refine s_expr ?_ | refine s_next ?_ | refine s_brk ?_ | refine s_cont ?_ | refine s_for ?_ | refine s_while ?_
  | refine p_c ?_ | refine p_bin ?_ | refine p_as ?_ | refine p_cons ?_ | refine p_nil ?_ | refine p_un ?_ | refine p_call ?_ | refine p_if ?_ | refine p_own ?_
  | refine p_keep ?_ | refine p_tru ?_ | refine p_and ?_ | refine p_or ?_ | refine p_not ?_ | refine p_val ?_ | refine p_rand ?_ | refine p_ror ?_ | refine p_rnot ?_ | refine p_chain ?_ | refine p_bif ?_
  | refine o_add ?_ | refine o_sub ?_ | refine o_ltU ?_ | refine o_leU ?_ | refine o_gtU ?_ | refine o_geU ?_ | refine o_neg ?_ | refine o_eqI ?_ | refine o_neI ?_ | refine o_abs ?_ | refine o_tru ?_ | refine p_true ?_ | refine p_false ?_
  | refine o_lenT ?_ | refine o_lenL ?_ | refine o_ix0 ?_ | refine o_ix1 ?_ | refine o_ix2 ?_ | refine o_ix0L ?_ | refine o_ix1L ?_ | refine o_ix2L ?_
  | refine s_par ?_ | refine p_yes ?_ | refine p_seq ?_ | refine s_gnil ?_ | refine s_gcons ?_ | refine s_gtux ?_ | refine s_gtupl ?_ | refine p_onone ?_ | refine p_osome ?_ | refine p_get2 ?_ | refine s_putU ?_ | refine p_sortIt ?_)
local macro_rules | `(tactic| walk_at "2") => `(tactic| first
  | walk_at "1"
  | (with_reducible refine p_var2 ?_)
  | ((with_reducible refine s_name ?_ ?_); (· exact Nat.le_of_ble_eq_true rfl); dsimp only [List.set_cons_zero, List.set_cons_succ])
  | (with_reducible refine p_tup ?_) | (with_reducible refine p_lst ?_) | ((with_reducible refine ⟨?_, ?_⟩); (· exact Nat.le_of_ble_eq_true rfl))
  | ((with_reducible refine p_ex2 (x := ?_) (y := ?_) ?_ ?_); rotate_left; rotate_left; (· rfl); refine ⟨?_, ?_, ?_⟩; (· exact Nat.le_of_ble_eq_true rfl); (· exact Nat.le_of_ble_eq_true rfl); dsimp only [List.set_cons_zero, List.set_cons_succ])
  | ((with_reducible refine p_isT ?_ ?_); (· rfl)) | ((with_reducible refine p_isF ?_ ?_); (· rfl))
  | ((with_reducible refine p_ex (x := ?_) ?_ ?_); rotate_left; (· rfl)))
local macro_rules | `(tactic| walk_at "3") => `(tactic| repeat walk_at "2")
theorem o_dict {S : Sto} {j : Nat} {kvs : List (D × D)} {Q : D → Sto → Prop} (hj : S[j]? = some (.dct kvs)) (h : Q (.dct kvs) S) : (Res.lift (gDict S [.ptr j]) S).post Q := p_lift (by
  unfold gDict
  dsimp only
  rw [show deref S (.ptr j) = .dct kvs by
    unfold deref
    dsimp only
    rw [show S.getD j .non = .dct kvs by rw [List.getD_eq_getElem?_getD, hj]; rfl]]) h
theorem listR {a : RE} {δ : Sl} {S : Sto} {Q : D → Sto → Prop} (h : (a δ S).post fun d S1 => ∃ j : Int, d = .int j ∧ (0 ≤ j ∧ j ≤ 16777216) ∧ Q (.lst (rangeD 0 j)) S1) : (rListR a δ S).post Q :=
  p_bind (h.mono fun d S1 ⟨j, e, h1, q⟩ => by
    subst e
    dsimp only
    rw [if_pos h1]
    exact q)
theorem rc4 {l n : Nat} {rows : List (Kind × Rat)} (fg : FormG l n rows) : Rc n 3 (10 ^ 10) (10 ^ 21) (dens rows) rows := ⟨fun p hp => (fg.kinds p hp).m, fun p hp => (fg.kinds p hp).p0, fun p hp => (fg.kinds p hp).p1, fun p hp => (fg.kinds p hp).b, qc_dens (fun p hp => (fg.rb p hp).1)⟩
theorem sta_keep {c : Nat} {S S' : Sto} (h : Sta c S) (hS : Sane S') (hk : ∀ k, k < S.length → S'[k]? = S[k]?) : Sta c S' := by
  have l2 := h.len
  obtain ⟨ns, rs, a, q0, q1, q2⟩ := h.ex
  exact ⟨⟨ns, rs, a, by rw [hk 0 (by omega)]; exact q0, by rw [hk 1 (by omega)]; exact q1, q2⟩, hS⟩
theorem shw_boxes {n : Nat} {rows : List (Kind × Rat)} (hm : ∀ p ∈ rows, MonO n p.1.m) (h : n * rows.length < 64) : Shw (.lst ((sortT ((boxT rows).map (·.1))).map D.str)) (PyData.list ((sortT ((boxT rows).map (·.1))).map py)).shown := by
  have bp := box_part (n := n) (rows := rows) (kvs := []) hm (fun _ z => nomatch z)
  have bl : (boxT rows).length < 64 := by have := bp.2; show (boxF [] rows).length < 64; simp only [List.length_nil] at this; omega
  refine shw_lst (α := Str) (w := 82) (n := 64) (fun x hx => fitE_str ?_) ?_ (by decide) (by decide)
  · obtain ⟨p, hp, rfl⟩ := List.mem_map.mp ((sortT_perm _).mem_iff.mp hx)
    exact bp.1 p hp
  · rw [(sortT_perm _).length_eq, List.length_map]; omega
theorem law_spec (ns : List Int) (hn : ns.length ≤ 63) : ∃ S, m_law [.lst (ns.map .int)] [] = .ok (.bl true) S := by
  refine ⟨[], same_of (m_def ?_)⟩
  have sl : 3000 ≤ sizeLine := by decide
  show (b_law [some (.lst (ns.map .int)), none, none, none, none, none, none, none, none, none, none, none, none, none] []).post _ _ _ _
  unfold b_law
  obtain ⟨rs, hr, e⟩ := started_spec ns hn
  refine s_seq ?_
  refine s_asg ?_
  refine p_call ?_
  walk_at "3"
  refine Res.post.of_eq e ?_
  walk_at "2"
  have h0 : Sta 0 [.lst (rs.map .int), stD ns 0] := ⟨⟨ns, rs, 0, rfl, rfl, hr, Int.le_refl _, Int.le_refl _⟩, by
    unfold Sane closedL closedL closedL
    show (D.closed 2 (.lst (rs.map .int)) && (D.closed 2 (stD ns 0) && true)) = true
    rw [show D.closed 2 (stD ns 0) = true from stD_closed (by decide) ns 0]
    unfold D.closed
    rw [closed_ints']
    rfl⟩
  refine s_seq ?_
  refine s_for ?_
  with_reducible refine p_range1 ?_
  walk_at "3"
  refine p_lift (a := .int (if (((ns.map D.int).length : Nat) : Int) < 12 then (((ns.map D.int).length : Nat) : Int) else 12)) rfl ?_
  walk_at "3"
  refine p_lift rfl ?_
  walk_at "3"
  rw [List.length_map]
  refine ⟨by split <;> split <;> omega, by split <;> split <;> omega, ?_⟩
  generalize hj : (if (if (ns.length : Int) < 12 then (ns.length : Int) else 12) > 3 then (if (ns.length : Int) < 12 then (ns.length : Int) else 12) else 3) = j
  have hj2 : j ≤ 100 := by rw [← hj]; split <;> split <;> omega
  refine s_forL (fun xs δ S => ∃ t, xs.length + t ≤ 100 ∧ Sta (100000 * t) S ∧ ∃ o2 o3 o4 o5 o6 o7 o8 o9 o10 o11 o12 o13, δ = [some (.lst (ns.map .int)), some (.ptr 1), o2, o3, o4, o5, o6, o7, o8, o9, o10, o11, o12, o13]) ?_ ?_ _ _ _ ⟨0, ?_, h0, _, _, _, _, _, _, _, _, _, _, _, _, rfl⟩
  · rintro x xs δ S ⟨t, ht, hs, o2, o3, o4, o5, o6, o7, o8, o9, o10, o11, o12, o13, rfl⟩
    rw [List.length_cons] at ht
    walk_at "3"
    refine (form_spec2 hs (by omega) 6 4 (by decide) (by decide)).mono ?_
    rintro _ S1 ⟨f, rfl, fg, g1, fd⟩
    walk_at "3"
    refine (values_spec g1.sta (by omega)).mono ?_
    rintro _ S2 ⟨vals, u, rfl, hk, hl, hu, hv, hs2, hr2⟩
    have eu := isDic_str hu
    subst eu
    have hm : ∀ p ∈ f, MonO 4 p.1.m := fun p hp => (fg.kinds p hp).m
    have h24 : 4 * f.length < 64 := by have := fg.len; omega
    iterate 6 walk_at "2"
    refine s_seq ?_
    refine names_post (n := 4) (S0 := S2) hm h24 ⟨by rw [List.length_append]; exact Nat.lt_succ_self _, fun k k1 _ => List.getElem?_append_left k1, get_app, sane_app hs2.sane rfl⟩ ?_
    intro S3 o6 o7 hb bl
    have h3 : Sta (100000 * t + 20020) S3 := sta_keep (hs2.le (by omega)) hb.sane fun k hk => hb.keep k hk (by omega)
    have sb := shw_boxes hm h24
    walk_at "3"
    refine Res.post.of_eq (boxes_in_spec hm h24 S3 h3.sane) ?_
    walk_at "3"
    refine o_shw sb ?_
    walk_at "3"
    refine o_sortKeys hb.dic bl ?_
    walk_at "3"
    refine o_shw sb ?_
    refine o_neSame sb ?_
    walk_at "3"
    refine listR ?_
    walk_at "3"
    refine ⟨by omega, ?_⟩
    walk_at "3"
    refine (draw_spec h3 (by omega) 52 (by decide) (by decide)).mono ?_
    rintro _ S4 ⟨i, rfl, i0, i1, g4⟩
    walk_at "3"
    rw [show rangeD 0 9 = ([0, 1, 2, 3, 4, 5, 6, 7, 8] : List Int).map D.int from rfl]
    refine o_catI (b := [9 + i]) (by simp; omega) ?_
    walk_at "3"
    refine .inl ⟨_, rfl, ?_⟩
    have hk4 : S4[S1.length]? = some (.dct (kvD vals)) := by
      rw [g4.rest _ g1.sta.len, hb.keep _ (by omega) (by omega)]
      exact hk
    have r4 := rc4 fg
    have L1 := dens_pos f
    have L2 : dens f ≤ 60 ^ 6 := dens_le (by decide) fd fg.len
    refine s_forT D.int (fun xs' δ S' => ∃ t', xs'.length + t' ≤ 10 ∧ Sta (100000 * t + 20030 + 10 * t') S' ∧ S'[S1.length]? = some (.dct (kvD vals)) ∧ (∀ x ∈ xs', 0 ≤ x ∧ x ≤ 60) ∧ ∃ o8 o9 o10 o11 o12 o13, δ = [some (.lst (ns.map .int)), some (.ptr 1), some x, some (toD f), some (.ptr S1.length), some (.ptr S2.length), o6, o7, o8, o9, o10, o11, o12, o13]) ?_ ?_ _ _ _ ⟨0, by simp, g4.sta.le (by omega), hk4, fun x hx => ?_, _, _, _, _, _, _, rfl⟩
    · rintro y ys δ S5 ⟨t', ht', hs5, hk5, hy, o8, o9, o10, o11, o12, o13, rfl⟩
      rw [List.length_cons] at ht'
      have y60 := hy y List.mem_cons_self
      obtain ⟨n, rfl⟩ : ∃ n : Nat, y = n := ⟨y.toNat, by omega⟩
      walk_at "3"
      refine (draw_spec hs5 (by omega) 12 (by decide) (by decide)).mono ?_
      rintro _ S6 ⟨p, rfl, p0, p1, g6⟩
      obtain ⟨p, rfl⟩ : ∃ q : Nat, p = q := ⟨p.toNat, by omega⟩
      walk_at "3"
      refine (base_spec g6.sta (by omega)).mono ?_
      rintro _ S7 ⟨b, rfl, hb7, g7⟩
      have g67 := g6.trans g7
      have hS7 := g67.sta.sane
      have hk7 : S7[S1.length]? = some (.dct (kvD vals)) := by rw [g67.rest _ g1.sta.len]; exact hk5
      have hj7 := (List.getElem?_eq_some_iff.mp hk7).1
      have e1 := term_at_spec p n b (by omega) (by omega) hb7 (by decide) _ hS7
      have e2 := lterm_spec p n b (by omega) (by omega) hb7 (by decide) _ hS7
      have tb := tv_far (p := p) (n := n) hb7 (by omega) (by omega)
      have sh : Shw (.int (tv p b n)) (py (tv p b n)).shown := shw_emb (κ := Int) (fitE_int (Nat.le_trans tb (by decide +kernel))) (by decide) (by decide)
      obtain ⟨v7, sA, sW⟩ := valF (c := n) r4 fg.len L1 L2 hS7 hu hk7 hv (by omega)
      have hS8 : Sane (S7 ++ [.dct (kvD vals)]) := sane_app hS7 (isDic_closed hu _)
      have hk8 : (S7 ++ [D.dct (kvD vals)])[S1.length]? = some (.dct (kvD vals)) := by rw [List.getElem?_append_left hj7]; exact hk7
      have hl8 : (S7 ++ [D.dct (kvD vals)])[S7.length]? = some (.dct (kvD vals)) := get_app
      have v8 := (valF (c := n) r4 fg.len L1 L2 hS8 hu hk8 hv (by omega)).1
      have w8 := (valF (c := n) r4 fg.len L1 L2 hS8 hu hl8 hv (by omega)).1
      walk_at "3"
      refine Res.post.of_eq e1 ?_
      walk_at "3"
      refine o_shw sh ?_
      walk_at "3"
      refine Res.post.of_eq e2 ?_
      walk_at "3"
      refine o_shw sh ?_
      refine o_neSame sh ?_
      walk_at "3"
      refine Res.post.of_eq v7.its ?_
      walk_at "3"
      refine Res.post.of_eq v7.mine ?_
      walk_at "3"
      refine o_shw sA ?_
      walk_at "3"
      refine o_shw sA ?_
      refine o_neSame sA ?_
      walk_at "3"
      refine o_dict hk7 ?_
      walk_at "3"
      refine Res.post.of_eq v8.wrt ?_
      walk_at "3"
      refine Res.post.of_eq w8.form ?_
      walk_at "3"
      refine o_shw sW ?_
      walk_at "3"
      refine o_shw sW ?_
      refine o_neSame sW ?_
      walk_at "3"
      refine o_neSelf hv.nd hl8 hk8 ?_
      walk_at "3"
      refine Res.post.of_eq w8.plain ?_
      walk_at "3"
      refine o_shw sW ?_
      walk_at "3"
      refine o_shw sW ?_
      refine o_neSame sW ?_
      walk_at "3"
      refine o_neSelf hv.nd hl8 hk8 ?_
      walk_at "3"
      exact ⟨t' + 1, by omega, (g67.sta.app (u := .dct (kvD vals)) (isDic_closed hu _)).le (by omega), hk8, fun z hz => hy z (List.mem_cons_of_mem _ hz), _, _, _, _, _, _, rfl⟩
    · rintro δ S5 ⟨t', ht', hs5, hk5, hy, o8, o9, o10, o11, o12, o13, rfl⟩
      have ht' : t' ≤ 10 := by simpa using ht'
      exact ⟨t + 1, by omega, hs5.le (by omega), _, _, _, _, _, _, _, _, _, _, _, _, rfl⟩
    · have : x ∈ ([0, 1, 2, 3, 4, 5, 6, 7, 8] : List Int) ++ [9 + i] := hx
      simp only [List.mem_append, List.mem_cons, List.not_mem_nil, or_false] at this
      omega
  · rintro δ S ⟨t, ht, hs, o2, o3, o4, o5, o6, o7, o8, o9, o10, o11, o12, o13, rfl⟩
    walk_at "3"
    refine (great_spec hs (by omega)).mono ?_
    rintro _ S' rfl
    exact ⟨rfl, rfl, rfl⟩
  · unfold rangeD
    rw [List.length_map, List.length_range]
    omega
end DL

set_option Elab.async false
set_option linter.all false
set_option maxRecDepth 100000
set_option maxHeartbeats 0
set_option autoImplicit false
namespace DL
open PySem PySem.Spec PyProof.Rows L2
abbrev R : PySem.W.OpenRow := PySem.W.OpenLaw.row PySem.Challenge.rw_roundless_k19_what_forms_are_worth
abbrev hk : PySem.W.Hook := hookL 4 fa fn li
def ob (s : PySem.W.SharedT) : He.AlD := obsLG 4 fa fn li (HandSHeadRun.getT s)
theorem ob_eq (s : PySem.W.SharedT) : ob s = hk.obs s.abs   := obsLG_eq (HandSHeadRun.getT_eq s)
def loose : List Str := "NOUGHT" :: "MOST_PAIRS" :: "GREATEST" :: "LoopError" :: "TooGreat" :: "common_divisor" :: "fraction" :: "plus" :: "times" :: "choose" :: "is_small" :: "pairs_of" :: "added" :: "boxes_in" :: "raised" :: "term_at" :: "at_count" :: "plain_value" :: "form_value" :: "_law_started" :: "_law_draw" :: "_law_of" :: "_law_common" :: "_law_share" :: "_law_plus" :: "_law_put" :: "_law_pairs" :: "_law_mono" :: "_law_number" :: "_law_base" :: "_law_form" :: "_law_values" :: "_law_power" :: "_law_term" :: "_law_at" :: "_law_worth" :: "_law_great_right" :: []
theorem run (w : World) : HandSHeadRun.RunEq R (PySem.W.view R.prog [41]) hk ob 2000 loose w := by
  intro os
  kernel_rfl
end DL
open PySem PySem.W PySem.Calls PyProof.Rows
theorem DL.holds_of (hm : ∀ ns : List Int, ns.length ≤ 63 → ∃ S, DL.m_law [.lst (ns.map .int)] [] = .ok (.bl true) S) : PySem.Challenge.rw_roundless_k19_what_forms_are_worth.Holds := by
  w_on; o_law
  refine HandSHeadRun.head_any (r := OpenLaw.row PySem.Challenge.rw_roundless_k19_what_forms_are_worth) (q := view (OpenLaw.row PySem.Challenge.rw_roundless_k19_what_forms_are_worth).prog [41]) (H := DL.hk) (ob := DL.ob) (M := 2000) (loose := DL.loose) (d := HandSHeadRun.topDef (OpenLaw.row PySem.Challenge.rw_roundless_k19_what_forms_are_worth).prog 41) (kwd := []) DL.ob_eq
    (by kernel_rfl) (fun s => by kernel_rfl) DL.run (by kernel_rfl) (by kernel_rfl) (by kernel_rfl) (by rfl) (by first | assumption | decide +kernel) (by decide +kernel) ⟨rfl, rfl, rfl, rfl, rfl, by decide +kernel⟩ ?hw ?hc
  case hw => w_witness2
  case hc =>
    refine DL.walkG (l := PySem.Challenge.rw_roundless_k19_what_forms_are_worth) (n := 63) (k := 7) (m := DL.m_law) rfl (by decide) (by kernel_rfl) ⟨rfl, by decide, by decide⟩ ?F hm
    intro w mg h Y G
    obtain ⟨K, KX, c⟩ := Y
    have e : (HandSHeadRun.topDef (OpenLaw.row PySem.Challenge.rw_roundless_k19_what_forms_are_worth).prog 41).name = ("law" : PySem.Str) := by kernel_rfl
    refine ⟨K, KX, fun base _ _ => ?_⟩
    rw [e]
    exact DL.ok_law (DL.txt KX G (DL.SaysL.all c).1 (DL.SaysL.all c).2.1 (DL.SaysL.all c).2.2)

open PySem PySem.W PyProof.Rows
theorem PySem.Challenge.cw_roundless_k19_what_forms_are_worth_holds : PySem.Challenge.rw_roundless_k19_what_forms_are_worth.Holds := by
  exact DL.holds_of fun ns h => DL.law_spec ns h
