import PyProof.Rows.All
import Wide.All
import OpenK.AllK
import Wide.FinOn
import HandS.ForMost
import HandS.ForExc
import HandS.Flow
import HandS.IsInst
import HandS.Wide
import KE.KeyNested
import HandS.TupAny
import HandS.Style
import HandS.NoneIn
import HandS.StrMore
import HandS.RaiseMore
import PyProof.ListStr
import HandS.More
import HandS.Conv
import HandS.HeadHook2
import HandS.HeadEnd
import HandS.Head0
import HandS.Head1
import HandS.Head2
import HandS.Ends
import KE.IntTextLaws
import PyProof.DictRoadsH
import KE.KDictPairs
import KE.KDictWalk
import KE.DataCmp
import KE.SortData
import HandS.DictTup
import HandS.SetTxt0
import HandS.SetFor
import HandS.TupSets
import KE.KRevSl
import HandS.Zip
import PyProof.Rows.Digits
import PyProof.ReprReads
import PyProof.StrLawsRepr
import PyProof.ReprText
import KE.KEqDict
import HandS.Finally
import HandS.SortInts
import KE.GoesEnum
import PyProof.Rows.SeqMore
import PySem.Challenge.RW_roundless_k30_whole_roots
import KE.KStateDown
import HandS.HeadHook1
set_option Elab.async false
set_option linter.all false
set_option maxRecDepth 100000
set_option maxHeartbeats 4000000
/-! Data layer, first part: data, results, mirrors of expressions and statements (plain Lean). -/
namespace DL
open PySem PySem.Spec PyProof.Rows L2

/-- a thing as data: what is never changed stands as a whole, what may be changed stands by its number in the store -/
inductive D where
  | non | bl (b : Bool) | int (i : Int) | str (x : Str)
  | tup (xs : List D) | lst (xs : List D) | dct (kvs : List (D × D)) | dcn (kvs : List (D × D))
  | ptr (k : Nat) | fn (x : Str) | ty (n : String) | lck (d : D) | tux (xs : List D)
  deriving Inhabited

abbrev Sl := List (Option D)
abbrev Sto := List D
inductive Res (A : Type) where
  | ok (a : A) (S : Sto)
  | err (c : Str) (fs : List (Str × D)) (S : Sto)
  | stuck
abbrev RE := Sl → Sto → Res D
abbrev RB := Sl → Sto → Res Bool
abbrev RA := Sl → Sto → Res (List D)
abbrev RG := D → Sl → Sto → Res Sl
abbrev Mir := List D → Sto → Res D
inductive Out where
  | nx (δ : Sl) (S : Sto) | rt (d : D) (S : Sto) | bk (δ : Sl) (S : Sto) | ct (δ : Sl) (S : Sto)
  | err (c : Str) (fs : List (Str × D)) (δ : Sl) (S : Sto) | stuck
abbrev RS := Sl → Sto → Out

def Res.bind {A B : Type} (r : Res A) (f : A → Sto → Res B) : Res B := match r with
  | .ok a S => f a S
  | .err c fs S => .err c fs S
  | .stuck => .stuck
def Res.out (δ : Sl) {A : Type} (r : Res A) (f : A → Sto → Out) : Out := match r with
  | .ok a S => f a S
  | .err c fs S => .err c fs δ S
  | .stuck => .stuck
def Res.lift {A : Type} (o : Option A) (S : Sto) : Res A := match o with
  | some a => .ok a S
  | none => .stuck

def deref (S : Sto) : D → D
  | .ptr k => match S.getD k .non with
    | .non => .ptr k
    | .lck d => d
    | d => d
  | d => d

/-! expressions -/
def rVar (i : Nat) : RE := fun δ S => match δ[i]? with
  | some (some d) => .ok d S
  | _ => .stuck
def rC (d : D) : RE := fun _ S => .ok d S
def rUn (g : Sto → D → Option D) (a : RE) : RE := fun δ S => (a δ S).bind fun x S1 => .lift (g S1 x) S1
def rBin (g : Sto → D → D → Option D) (a b : RE) : RE := fun δ S => (a δ S).bind fun x S1 => (b δ S1).bind fun y S2 => .lift (g S2 x y) S2
def rAs (g : Sto → List D → Option D) (a : RA) : RE := fun δ S => (a δ S).bind fun x S1 => .lift (g S1 x) S1
def rNil : RA := fun _ S => .ok [] S
def rCons (a : RE) (b : RA) : RA := fun δ S => (a δ S).bind fun x S1 => (b δ S1).bind fun ys S2 => .ok (x :: ys) S2
def rCall (m : Mir) (a : RA) : RE := fun δ S => (a δ S).bind m
def rIf (c : RB) (a b : RE) : RE := fun δ S => (c δ S).bind fun k S1 => if k then a δ S1 else b δ S1
def rOwn (a : RE) : RE := fun δ S => (a δ S).bind fun d S1 => .ok (.ptr S1.length) (S1 ++ [d])
def rTup (a : RA) : RE := fun δ S => (a δ S).bind fun xs S1 => if xs.length ≤ sizeLine then .ok (.tup xs) S1 else .stuck
def rLst (a : RA) : RE := fun δ S => (a δ S).bind fun xs S1 => if xs.length ≤ sizeLine then .ok (.lst xs) S1 else .stuck

def truth (S : Sto) (d : D) : Option Bool := match deref S d with
  | .non => some false
  | .bl b => some b
  | .int i => some (i != 0)
  | .str y => if y.length ≤ sizeLine then some ((y.length : Int) != 0) else none
  | .tup xs => some (!xs.isEmpty)
  | .lst xs => some (!xs.isEmpty)
  | _ => none
/-! tests -/
def bTru (a : RE) : RB := fun δ S => (a δ S).bind fun x S1 => .lift (truth S1 x) S1
def bAnd (a b : RB) : RB := fun δ S => (a δ S).bind fun k S1 => if k then b δ S1 else .ok false S1
def bOr (a b : RB) : RB := fun δ S => (a δ S).bind fun k S1 => if k then .ok true S1 else b δ S1
def bNot (a : RB) : RB := fun δ S => (a δ S).bind fun k S1 => .ok (!k) S1
/-! and, or, not as values -/
def rAnd (a b : RE) : RE := fun δ S => (a δ S).bind fun x S1 => (Res.lift (truth S1 x) S1).bind fun k S2 => if k then b δ S2 else .ok x S2
def rOr (a b : RE) : RE := fun δ S => (a δ S).bind fun x S1 => (Res.lift (truth S1 x) S1).bind fun k S2 => if k then .ok x S2 else b δ S2
def rNot (a : RE) : RE := fun δ S => (a δ S).bind fun x S1 => (Res.lift (truth S1 x) S1).bind fun k S2 => .ok (.bl (!k)) S2

/-! targets -/
def gName (i : Nat) : RG := fun d δ S => if i < δ.length then .ok (δ.set i (some d)) S else .stuck
def gNil : List D → Sl → Sto → Res Sl := fun ds δ S => match ds with
  | [] => .ok δ S
  | _ => .stuck
def gCons (g : RG) (u : List D → Sl → Sto → Res Sl) : List D → Sl → Sto → Res Sl := fun ds δ S => match ds with
  | d :: r => (g d δ S).bind fun δ1 S1 => u r δ1 S1
  | [] => .stuck
def gTup (u : List D → Sl → Sto → Res Sl) : RG := fun d δ S => match deref S d with
  | .tup ds => u ds δ S
  | .tux ds => u ds δ S
  | _ => .stuck

/-! statements -/
def sNext : RS := fun δ S => .nx δ S
def sSeq (a b : RS) : RS := fun δ S => match a δ S with
  | .nx δ1 S1 => b δ1 S1
  | o => o
def sAsg (e : RE) (g : RG) : RS := fun δ S => (e δ S).out δ fun d S1 => (g d δ S1).out δ fun δ1 S2 => .nx δ1 S2
def sExpr (e : RE) : RS := fun δ S => (e δ S).out δ fun _ S1 => .nx δ S1
def sRet (e : RE) : RS := fun δ S => (e δ S).out δ fun d S1 => .rt d S1
def sIf (c : RB) (a b : RS) : RS := fun δ S => (c δ S).out δ fun k S1 => if k then a δ S1 else b δ S1
def sBreak : RS := fun δ S => .bk δ S
def sCont : RS := fun δ S => .ct δ S
def sNever : RS := fun _ _ => .stuck
def forL (g : RG) (b : RS) : List D → RS
  | [], δ, S => .nx δ S
  | x :: xs, δ, S => (g x δ S).out δ fun δ1 S1 => match b δ1 S1 with
    | .nx δ2 S2 => forL g b xs δ2 S2
    | .ct δ2 S2 => forL g b xs δ2 S2
    | .bk δ2 S2 => .nx δ2 S2
    | o => o
def sFor (it : RA) (g : RG) (b : RS) : RS := fun δ S => (it δ S).out δ fun xs S1 => forL g b xs δ S1
def whileL (c : RB) (b : RS) : Nat → RS
  | 0, _, _ => .stuck
  | n + 1, δ, S => (c δ S).out δ fun k S1 => if k then (match b δ S1 with
    | .nx δ2 S2 => whileL c b n δ2 S2
    | .ct δ2 S2 => whileL c b n δ2 S2
    | .bk δ2 S2 => .nx δ2 S2
    | o => o) else .nx δ S1
def sWhile (fuel : Sl → Sto → Nat) (c : RB) (b : RS) : RS := fun δ S => whileL c b (fuel δ S) δ S
/-- the turns of a list comprehension; δ: the slots without its own names -/
def lcL (g : RG) (t : RB) (e : RE) : List D → Sl → Sto → Res (List D)
  | [], _, S => .ok [] S
  | x :: xs, δ, S => (g x δ S).bind fun δ1 S1 => (t δ1 S1).bind fun k S2 =>
    if k then (e δ1 S2).bind fun y S3 => (lcL g t e xs δ S3).bind fun ys S4 => .ok (y :: ys) S4 else lcL g t e xs δ S2
def wipeD (δ : Sl) : List Nat → Sl
  | [] => δ
  | v :: vs => (wipeD δ vs).set v none
def noErr {A : Type} (r : Res A) : Res A := match r with
  | .err _ _ _ => .stuck
  | r => r
def bYes : RB := fun _ S => .ok true S
def rLc (it : RA) (g : RG) (vs : List Nat) (t : RB) (e : RE) : RE := fun δ S => (it δ S).bind fun xs S1 =>
  (noErr (lcL g t e xs (wipeD δ vs) S1)).bind fun ys S2 => if ys.length ≤ sizeLine then .ok (.lst ys) S2 else .stuck

/-! keys of any depth -/
mutual
def keyN : D → Option NestedKey
  | .non => some .none
  | .bl b => some (.num (if b = true then 1 else 0))
  | .int i => some (.num i)
  | .str x => some (.text x)
  | .tup xs => (keyNs xs).map .tup
  | _ => none
def keyNs : List D → Option (List NestedKey)
  | [] => some []
  | d :: r => match keyN d, keyNs r with
    | some k, some ks => some (k :: ks)
    | _, _ => none
end
/-- a tuple that may be a key -/
def isKeyN (d : D) : Bool := match d with
  | .tup _ => (match keyN d with
    | some k => decide (k.depth ≤ 8)
    | none => false)
  | _ => false
def eqN (a b : D) : Bool := match keyN a, keyN b with
  | some x, some y => NestedKey.beq x y
  | _, _ => false
def lookN : List (D × D) → D → Option D
  | [], _ => none
  | (k, v) :: r, q => if eqN k q then some v else lookN r q
def replN : List (D × D) → D → D → List (D × D)
  | [], _, _ => []
  | (k, v) :: r, q, y => if eqN k q then (k, y) :: replN r q y else (k, v) :: replN r q y
def putN (kvs : List (D × D)) (q y : D) : List (D × D) := if (lookN kvs q).isSome then replN kvs q y else kvs ++ [(q, y)]
def mergeN (kvs more : List (D × D)) : List (D × D) := more.foldl (fun acc kv => putN acc kv.1 kv.2) kvs
/-! ghost steps -/
/-- the object of slot i is changed no more -/
def sFreeze (i : Nat) : RS := fun δ S => match δ[i]? with
  | some (some (.ptr k)) => (match S[k]? with
    | some (.lst ds) => .nx (δ.set i (some (.lst ds))) (S.set k .non)
    | _ => .stuck)
  | _ => .stuck
mutual
/-- nothing in it stands in the store from n on -/
def D.closed (n : Nat) : D → Bool
  | .ptr k => decide (k < n)
  | .tup xs => closedL n xs
  | .lst xs => closedL n xs
  | .dct kvs => closedK n kvs
  | .dcn kvs => closedK n kvs
  | .lck d => D.closed n d
  | .tux xs => closedL n xs
  | _ => true
def closedL (n : Nat) : List D → Bool
  | [] => true
  | d :: r => D.closed n d && closedL n r
def closedK (n : Nat) : List (D × D) → Bool
  | [] => true
  | (k, v) :: r => D.closed n k && D.closed n v && closedK n r
end
/-- a thing of the store that is neither gone nor locked -/
def D.open : D → Bool
  | .non => false
  | .lck _ => false
  | _ => true
def D.owned : D → Bool
  | .lst _ => true
  | .dct _ => true
  | .dcn _ => true
  | _ => false
/-- a thing that a def made and gives away, to be changed further -/
def giveD (n : Nat) (d : D) (S1 : Sto) : Res D := match d with
  | .ptr k => (match S1[k]? with
    | some u => if u.owned && D.closed n u && decide (n ≤ k) && closedL n (S1.take n) then .ok (.ptr n) (S1.take n ++ [u]) else .stuck
    | none => .stuck)
  | _ => .stuck
/-- a def: n slots, its body; what it made itself in the store goes -/
def mDef (n : Nat) (b : RS) : Mir := fun ds S => match b (ds.map some ++ List.replicate (n - ds.length) none) S with
  | .rt d S1 => if D.closed S.length d && closedL S.length (S1.take S.length) then .ok d (S1.take S.length) else giveD S.length d S1
  | .nx _ S1 => if closedL S.length (S1.take S.length) then .ok .non (S1.take S.length) else .stuck
  | .err c fs _ S1 => if closedL S.length (fs.map (·.2)) && closedL S.length (S1.take S.length) then .err c fs (S1.take S.length) else .stuck
  | _ => .stuck
end DL

set_option Elab.async false
set_option linter.all false
set_option maxRecDepth 100000
set_option maxHeartbeats 4000000
set_option autoImplicit false
/-! Data layer: tuples that are made, known to the object. -/
namespace DL
open PySem PySem.Spec PyProof.Rows L2
abbrev Fg := PySem.W.Frag
/-- a tuple without a dict of its own -/
def PlT (K : Fg) (F : Hp) (a : Addr) (xs : List V) : Prop := SqT K F a xs ∧ ((∃ o, F a = some (.frz o (.tup xs)) ∧ o.dict = none) ∨ ∃ o, K.lookup a = some o ∧ o.dict = none)
/-- a tuple that is made at a new place -/
def TLays (H : Hp) (xs : List V) (Q : VK) : Prop := ∀ p, H p = none → ∀ o : Obj, o.dict = none → Q (.ref p) (upd H p (.frz o (.tup xs)))
def tupObj (us : Array Value) : Obj := { cls := .type "tuple", data := .seq us }
theorem tup_frz {P : Program} {w : World} {H : Hp} {h : Heap} {us : List Value} {xs : List V} (z : xs.length ≤ sizeLine) (r : Vals xs us) : ObjOk P w H (h.push (tupObj us.toArray)) h.objs.size (.frz (tupObj us.toArray) (.tup xs)) :=
  ⟨Heap.get?_push_size _ rfl, z, us, r, ⟨_, Heap.get?_push_size _ rfl, rfl, _, rfl⟩⟩
section
variable {X : Cx} {es : List Expr} {pos : Pos} {t : TA}
def tTupP (t : TA) : TE := fun σ H Q => t σ H fun xs H1 => xs.length ≤ sizeLine ∧ TLays H1 xs Q
theorem pe_tupP {x1} (h : PA X es t) : PE X (.Tuple es x1 pos) (tTupP t) := by
  refine ⟨fun pins s σ H Q I hq => ?_⟩
  refine wpAny_Tuple_spliced (thn (h.run pos pins s σ H _ I hq) fun us s1 ⟨xs, H1, I1, r, z, q⟩ => ⟨by rw [← r.length]; exact z, ?_⟩)
  have hf : H1 s1.heap.objs.size = none := I1.hok.fresh (Nat.le_refl _)
  exact ⟨.ref s1.heap.objs.size, upd H1 s1.heap.objs.size (.frz (tupObj us.toArray) (.tup xs)), I1.laid (t' := s1.toks) (fun b u e => Heap.get?_push_of_some _ e) (Nat.le_refl _) (tup_frz z r), rfl, q _ hf _ rfl⟩
theorem call_tuple_ofP : CallR X (.type "tuple") (fun xs H Q => ∃ p ys, xs = [.ref p] ∧ ((SqL X.K H p ys ∧ TLays H ys Q) ∨ (SqT X.K H p ys ∧ Q (.ref p) H))) := by
  intro pins s σ H xs us Q I r h
  obtain ⟨p, ys, rfl, h⟩ := h
  obtain ⟨u, rfl, rx⟩ := vals1 r
  cases rx
  rcases h with ⟨hq, q⟩ | ⟨hq, q⟩
  · obtain ⟨its, r', pl, hz⟩ := I.list hq
    have hlen := r'.length
    refine call_tuple_list pl.isList (fun h' kp => ?_) (by simp only [List.size_toArray] <;> omega)
    have I1 : Inv X pins σ H { s with heap := h' } := I.kept (t' := s.toks) kp
    have I2 : Inv X pins σ (upd H h'.objs.size (.frz (tupObj its.toArray) (.tup ys))) { s with heap := h'.push { cls := .type "tuple", data := .seq its.toArray } } :=
      I1.laid (t' := s.toks) (fun b o e => Heap.get?_push_of_some _ e) (Nat.le_refl _) (tup_frz hz r')
    exact ⟨.ref h'.objs.size, _, I2, rfl, q _ (I1.hok.fresh (Nat.le_refl _)) _ rfl⟩
  · obtain ⟨its, r', pl, hz⟩ := I.tuple hq
    exact call_tuple_same pl ⟨.ref p, H, I, rfl, q⟩
/-- t + u -/
def rCatP (K : Fg) : R2 := fun x y H Q => ∃ a b xs ys, x = .ref a ∧ y = .ref b ∧ SqT K H a xs ∧ SqT K H b ys ∧ xs.length + ys.length ≤ sizeLine ∧
  (xs = [] → Q (.ref b) H) ∧ (xs ≠ [] → ys = [] → Q (.ref a) H) ∧ (xs ≠ [] → ys ≠ [] → TLays H (xs ++ ys) Q)
theorem op_catP : OpR X (binaryOp .Add) (rCatP X.K) := by
  intro pins s σ H x y v u Q I rx ry h
  obtain ⟨a, b, xs, ys, rfl, rfl, ha, hb, hz, q0, q1, q2⟩ := h
  cases rx
  cases ry
  obtain ⟨its, r1, p1, _⟩ := I.tuple ha
  obtain ⟨its2, r2, p2, _⟩ := I.tuple hb
  by_cases hx : xs = []
  · subst hx
    cases r1
    exact cat_tup0 p1 p2 ⟨.ref b, H, I, rfl, q0 rfl⟩
  · refine HT.cat_tup p1 p2 (fun z => hx (r1.nil_iff.mp z)) (fun z => ⟨.ref a, H, I, rfl, q1 hx (r2.nil_iff.mp z)⟩) (fun z => ?_) (by rw [← r1.length, ← r2.length]; exact hz)
    exact ⟨.ref s.heap.objs.size, _, I.laid (t' := s.toks) (o := .frz (tupObj (its ++ its2).toArray) (.tup (xs ++ ys))) (fun b ob q => Heap.get?_push_of_some _ q) (Nat.le_refl _) (tup_frz (by rw [List.length_append]; exact hz) (r1.append r2)), rfl, q2 hx (fun w => z (r2.nil_iff.mpr w)) _ (I.hok.fresh (Nat.le_refl _)) _ rfl⟩
/-- t[lo:hi]: the whole of it is t itself -/
def rSlP (K : Fg) : V → Option Int → Option Int → Hp → VK → Prop := fun x lo hi H Q => ∃ a xs, x = .ref a ∧ SqT K H a xs ∧
  (HT.sIx xs.length 0 lo = 0 ∧ HT.sIx xs.length xs.length hi = xs.length → Q (.ref a) H) ∧ (¬ (HT.sIx xs.length 0 lo = 0 ∧ HT.sIx xs.length xs.length hi = xs.length) → TLays H (cutV xs lo hi) Q)
theorem sl_tupP : SlR X (rSlP X.K) := by
  intro pins s σ H x v vl vu lo hi sl Q I rx hs pl pu h
  obtain ⟨a, xs, rfl, hx, q1, q2⟩ := h
  cases rx
  obtain ⟨its, r, ht, hz⟩ := I.tuple hx
  have hlen : its.toArray.size = xs.length := by rw [List.size_toArray]; exact r.length.symm
  refine ⟨"tuple", _, PyProof.Rows.slot_tuple_getitem.lookup, ht.typeIs, ?_⟩
  by_cases hw : HT.sIx xs.length 0 lo = 0 ∧ HT.sIx xs.length xs.length hi = xs.length
  · exact getItem_tuple_whole ht hs pl pu (by rw [hlen]; exact hw) ⟨.ref a, H, I, rfl, q1 hw⟩
  · refine HT.getItem_tuple_cut ht hs pl pu (by rw [hlen]; exact hw) ?_ (by rw [hlen]; exact hz)
    rw [hlen]
    exact ⟨.ref s.heap.objs.size, _, I.laid (t' := s.toks) (o := .frz (tupObj _) (.tup (cutV xs lo hi))) (fun b ob q => Heap.get?_push_of_some _ q) (Nat.le_refl _) (tup_frz (Nat.le_trans (cutV_length xs lo hi) hz) ((r.drop (HT.sIx xs.length 0 lo)).take (HT.sIx xs.length xs.length hi - HT.sIx xs.length 0 lo))), rfl, q2 hw _ (I.hok.fresh (Nat.le_refl _)) _ rfl⟩
end
end DL

set_option Elab.async false
set_option linter.all false
set_option maxRecDepth 100000
set_option maxHeartbeats 4000000
set_option autoImplicit false
/-! Data layer, second part: what data are in the heap; the judgements. -/
namespace DL
open PySem PySem.Spec PyProof.Rows L2

/-- the heap F tells what stands for good, α where the store's objects are -/
inductive AllP {A B : Type} (R : A → B → Prop) : List A → List B → Prop
  | nil : AllP R [] []
  | cons {a b as bs} : R a b → AllP R as bs → AllP R (a :: as) (b :: bs)

inductive DKs : List Key → List D → Prop
  | nil : DKs [] []
  | int {i : Int} {ks : List Key} {ds : List D} : DKs ks ds → DKs (.inl i :: ks) (.int i :: ds)
  | str {x : Str} {ks : List Key} {ds : List D} : DKs ks ds → DKs (.inr x :: ks) (.str x :: ds)
theorem DKs.length : ∀ {ks : List Key} {ds : List D}, DKs ks ds → ks.length = ds.length
  | _, _, .nil => rfl
  | _, _, .int t => by rw [List.length_cons, List.length_cons, DKs.length t]
  | _, _, .str t => by rw [List.length_cons, List.length_cons, DKs.length t]
mutual
inductive DV (wd : World) (K : Fg) (mg : Str → Option Value) (F : Hp) (α : List Addr) : V → D → Prop
  | non : DV wd K mg F α .non .non
  | bl (b : Bool) : DV wd K mg F α (.bl b) (.bl b)
  | int (i : Int) : DV wd K mg F α (.int i) (.int i)
  | str (x : Str) : DV wd K mg F α (.str x) (.str x)
  | tux {a : Addr} {xs : List V} {ds : List D} : SqT K F a xs → DVs wd K mg F α xs ds → DV wd K mg F α (.ref a) (.tux ds)
  | tup {a : Addr} {xs : List V} {ds : List D} : PlT K F a xs → DVs wd K mg F α xs ds → DV wd K mg F α (.ref a) (.tup ds)
  | lst {a : Addr} {xs : List V} {ds : List D} : SqL K F a xs → DVs wd K mg F α xs ds → DV wd K mg F α (.ref a) (.lst ds)
  | ptr {k : Nat} {a : Addr} : α[k]? = some a → DV wd K mg F α (.ref a) (.ptr k)
  | fn {x : Str} {a : Addr} : mg x = some (.ref a) → DV wd K mg F α (.ref a) (.fn x)
  | ty (n : String) : DV wd K mg F α (.ty n) (.ty n)
inductive DVs (wd : World) (K : Fg) (mg : Str → Option Value) (F : Hp) (α : List Addr) : List V → List D → Prop
  | nil : DVs wd K mg F α [] []
  | cons {v : V} {d : D} {vs : List V} {ds : List D} : DV wd K mg F α v d → DVs wd K mg F α vs ds → DVs wd K mg F α (v :: vs) (d :: ds)
end

/-- more stands for good -/
def Sub (F F' : Hp) : Prop := ∀ a o, F a = some o → F' a = some o
theorem Sub.refl (F : Hp) : Sub F F := fun _ _ h => h
theorem Sub.trans {F F1 F2 : Hp} (a : Sub F F1) (b : Sub F1 F2) : Sub F F2 := fun x o h => b x o (a x o h)
theorem Sub.sqL {K : Fg} {F F' : Hp} {a : Addr} {xs : List V} (s : Sub F F') (h : SqL K F a xs) : SqL K F' a xs := by
  rcases h with (h | ⟨o, h⟩) | h
  · exact .inl (.inl (s _ _ h))
  · exact .inl (.inr ⟨o, s _ _ h⟩)
  · exact .inr h
theorem Sub.rd {F F' : Hp} {a : Addr} {u : HO} (s : Sub F F') (h : Rd F a u) : Rd F' a u := h.imp (s _ _) fun ⟨o, h⟩ => ⟨o, s _ _ h⟩
theorem Sub.sqT {K : Fg} {F F' : Hp} {a : Addr} {xs : List V} (s : Sub F F') (h : SqT K F a xs) : SqT K F' a xs := by
  rcases h with (h | ⟨o, h⟩) | h
  · exact .inl (.inl (s _ _ h))
  · exact .inl (.inr ⟨o, s _ _ h⟩)
  · exact .inr h
theorem Sub.plT {K : Fg} {F F' : Hp} {a : Addr} {xs : List V} (s : Sub F F') (h : PlT K F a xs) : PlT K F' a xs := ⟨s.sqT h.1, h.2.imp (fun ⟨o, e, q⟩ => ⟨o, s _ _ e, q⟩) id⟩
theorem Sub.new {F : Hp} {a : Addr} {o : HO} (h : F a = none) : Sub F (upd F a o) := fun b u e => by
  have : b ≠ a := fun z => by subst z; rw [h] at e; cases e
  rw [upd_ne this]; exact e

section
variable {wd : World} {K : Fg} {mg : Str → Option Value} {F F' : Hp} {α β : List Addr}
theorem at_app {A : Type} {l m : List A} {k : Nat} {a : A} (h : l[k]? = some a) : (l ++ m)[k]? = some a := by
  obtain ⟨hk, e⟩ := List.getElem?_eq_some_iff.mp h
  rw [List.getElem?_append_left hk]; exact h
mutual
theorem DV.mono {v : V} {d : D} (s : Sub F F') : DV wd K mg F α v d → DV wd K mg F' (α ++ β) v d
  | .non => .non
  | .bl b => .bl b
  | .int i => .int i
  | .str x => .str x
  | .tup h t => .tup (s.plT h) (DVs.mono s t)
  | .tux h t => .tux (s.sqT h) (DVs.mono s t)
  | .lst h t => .lst (s.sqL h) (DVs.mono s t)
  | .ptr h => .ptr (at_app h)
  | .fn h => .fn h
  | .ty n => .ty n
theorem DVs.mono {vs : List V} {ds : List D} (s : Sub F F') : DVs wd K mg F α vs ds → DVs wd K mg F' (α ++ β) vs ds
  | .nil => .nil
  | .cons h t => .cons (DV.mono s h) (DVs.mono s t)
end
theorem DVs.length : ∀ {vs : List V} {ds : List D}, DVs wd K mg F α vs ds → vs.length = ds.length
  | _, _, .nil => rfl
  | _, _, .cons _ t => by rw [List.length_cons, List.length_cons, DVs.length t]
theorem DVs.get : ∀ {vs : List V} {ds : List D} {i : Nat} {d : D}, DVs wd K mg F α vs ds → ds[i]? = some d → ∃ v, vs[i]? = some v ∧ DV wd K mg F α v d
  | _, _, _, _, .nil, e => by simp at e
  | _, _, 0, _, .cons h _, e => by simp at e; subst e; exact ⟨_, rfl, h⟩
  | _, _, i + 1, d, .cons _ t, e => by
    obtain ⟨v, h1, h2⟩ := DVs.get (i := i) (d := d) t (by simpa using e)
    exact ⟨v, by simpa using h1, h2⟩
theorem DVs.getV : ∀ {vs : List V} {ds : List D} {i : Nat} {v : V}, DVs wd K mg F α vs ds → vs[i]? = some v → ∃ d, ds[i]? = some d ∧ DV wd K mg F α v d
  | _, _, _, _, .nil, e => by simp at e
  | _, _, 0, _, .cons h _, e => by simp at e; subst e; exact ⟨_, rfl, h⟩
  | _, _, i + 1, v, .cons _ t, e => by
    obtain ⟨d, h1, h2⟩ := DVs.getV (i := i) (v := v) t (by simpa using e)
    exact ⟨d, by simpa using h1, h2⟩
theorem DVs.append : ∀ {vs ws : List V} {ds es : List D}, DVs wd K mg F α vs ds → DVs wd K mg F α ws es → DVs wd K mg F α (vs ++ ws) (ds ++ es)
  | _, _, _, _, .nil, s => s
  | _, _, _, _, .cons h t, s => .cons h (DVs.append t s)
theorem DVs.take : ∀ {vs : List V} {ds : List D} (n : Nat), DVs wd K mg F α vs ds → DVs wd K mg F α (vs.take n) (ds.take n)
  | _, _, 0, _ => .nil
  | _, _, _ + 1, .nil => .nil
  | _, _, n + 1, .cons h t => .cons h (DVs.take n t)
theorem DVs.drop : ∀ {vs : List V} {ds : List D} (n : Nat), DVs wd K mg F α vs ds → DVs wd K mg F α (vs.drop n) (ds.drop n)
  | _, _, 0, h => h
  | _, _, _ + 1, .nil => .nil
  | _, _, n + 1, .cons _ t => DVs.drop n t
theorem DVs.set {v : V} {d : D} (h : DV wd K mg F α v d) : ∀ {vs : List V} {ds : List D} (i : Nat), DVs wd K mg F α vs ds → DVs wd K mg F α (vs.set i v) (ds.set i d)
  | _, _, _, .nil => .nil
  | _, _, 0, .cons _ t => .cons h t
  | _, _, i + 1, .cons q t => .cons q (DVs.set h i t)
theorem DVs.eraseIdx : ∀ {vs : List V} {ds : List D} (i : Nat), DVs wd K mg F α vs ds → DVs wd K mg F α (vs.eraseIdx i) (ds.eraseIdx i)
  | _, _, _, .nil => .nil
  | _, _, 0, .cons _ t => t
  | _, _, i + 1, .cons q t => .cons q (DVs.eraseIdx i t)
theorem DVs.reverse {vs : List V} {ds : List D} (h : DVs wd K mg F α vs ds) : DVs wd K mg F α vs.reverse ds.reverse := by
  induction vs generalizing ds with
  | nil => cases h; exact .nil
  | cons v r ih =>
    cases h with
    | cons h t =>
      rw [List.reverse_cons, List.reverse_cons]
      exact DVs.append (ih t) (.cons h .nil)
theorem DVs.ints : ∀ {vs : List V} {ns : List Int}, DVs wd K mg F α vs (ns.map .int) → vs = ns.map .int
  | _, [], h => by cases h; rfl
  | _, n :: r, h => by
    cases h with
    | cons h t => cases h; rw [DVs.ints t]; rfl
theorem DVs.strs : ∀ {vs : List V} {ns : List Str}, DVs wd K mg F α vs (ns.map .str) → vs = ns.map .str
  | _, [], h => by cases h; rfl
  | _, n :: r, h => by
    cases h with
    | cons h t => cases h; rw [DVs.strs t]; rfl
theorem DVs.bls : ∀ {vs : List V} {ns : List Bool}, DVs wd K mg F α vs (ns.map .bl) → vs = ns.map .bl
  | _, [], h => by cases h; rfl
  | _, n :: r, h => by
    cases h with
    | cons h t => cases h; rw [DVs.bls t]; rfl
theorem DVs.of_ints : ∀ ns : List Int, DVs wd K mg F α (ns.map .int) (ns.map .int)
  | [] => .nil
  | n :: r => .cons (.int n) (DVs.of_ints r)
theorem DVs.of_strs : ∀ ns : List Str, DVs wd K mg F α (ns.map .str) (ns.map .str)
  | [] => .nil
  | n :: r => .cons (.str n) (DVs.of_strs r)
theorem DVs.of_bls : ∀ ns : List Bool, DVs wd K mg F α (ns.map .bl) (ns.map .bl)
  | [] => .nil
  | n :: r => .cons (.bl n) (DVs.of_bls r)
end

/-- values beside values -/
def NV : List (NestedKey × Addr × V) → List (NestedKey × Addr × Value) → Prop := Paired fun p q => p.1 = q.1 ∧ p.2.1 = q.2.1 ∧ RelV p.2.2 q.2.2
/-- a dict whose keys are tuples -/
def dN (w : World) (a : Addr) (xs : List (NestedKey × Addr × V)) : HO := .ext fun h => (a == sysModules) = false ∧ xs.length ≤ sizeLine ∧ (xs.map (·.1)).Nodup ∧ ∃ vs, NV xs vs ∧ ∃ o es ep, h.get? a = some o ∧ o.ExactDict ∧ o.data = .dict es ep ∧ es.toList = vs.map (fun x => (⟨x.1.hash w, .ref x.2.1, x.2.2⟩ : DictEntry))
/-- its pairs -/
inductive NVs (wd : World) (K : Fg) (mg : Str → Option Value) (F : Hp) (α : List Addr) : List (NestedKey × Addr × V) → List (D × D) → Prop
  | nil : NVs wd K mg F α [] []
  | cons {nk : NestedKey} {b : Addr} {v : V} {q d : D} {xs : List (NestedKey × Addr × V)} {kvs : List (D × D)} : keyN q = some nk → nk.depth ≤ 8 → DV wd K mg F α (.ref b) q → (∃ ds, q = .tup ds) → DV wd K mg F α v d → NVs wd K mg F α xs kvs → NVs wd K mg F α ((nk, b, v) :: xs) ((q, d) :: kvs)
theorem NVs.mono {wd : World} {K : Fg} {mg : Str → Option Value} {F F' : Hp} {α β : List Addr} {xs : List (NestedKey × Addr × V)} {kvs : List (D × D)} (s : Sub F F') (h : NVs wd K mg F α xs kvs) : NVs wd K mg F' (α ++ β) xs kvs := by
  induction h with
  | nil => exact .nil
  | cons h1 h2 h3 h4 h6 _ ih => exact .cons h1 h2 (h3.mono s) h4 (h6.mono s) ih
/-- the store's object at a is d -/
def Own (wd : World) (K : Fg) (mg : Str → Option Value) (F : Hp) (α : List Addr) (H : Hp) (a : Addr) : D → Prop
  | .lst ds => ∃ xs, H a = some (.lst xs) ∧ DVs wd K mg F α xs ds
  | .dct kvs => ∃ ws : List (Key × V), H a = some (.dK ws) ∧ DKs (ws.map (·.1)) (kvs.map (·.1)) ∧ DVs wd K mg F α (ws.map (·.2)) (kvs.map (·.2))
  | .dcn kvs => ∃ xs, H a = some (dN wd a xs) ∧ NVs wd K mg F α xs kvs
  | .lck (.dct kvs) => ∃ o, ∃ ws : List (Key × V), F a = some (.frz o (.dK ws)) ∧ H a = some (.frz o (.dK ws)) ∧ DKs (ws.map (·.1)) (kvs.map (·.1)) ∧ DVs wd K mg F α (ws.map (·.2)) (kvs.map (·.2))
  | .lck (.dcn kvs) => ∃ o xs, F a = some (.frz o (dN wd a xs)) ∧ H a = some (.frz o (dN wd a xs)) ∧ NVs wd K mg F α xs kvs
  | .non => True
  | _ => False
structure Rel (wd : World) (K : Fg) (mg : Str → Option Value) (α : List Addr) (F H : Hp) (S : Sto) : Prop where
  sub : Sub F H
  len : α.length = S.length
  nd : α.Nodup
  here : ∀ a ∈ α, ∃ o, H a = some o
  own : ∀ (k : Nat) (a : Addr) (d : D), α[k]? = some a → S[k]? = some d → Own wd K mg F α H a d ∧ (d.open = true → F a = none)
/-- what stood and isn't the store's stands -/
structure Stp (α : List Addr) (F H : Hp) (β : List Addr) (F' H' : Hp) : Prop where
  new : ∀ b ∈ β, H b = none
  sub : Sub F F'
  frame : ∀ a o, a ∉ α → H a = some o → H' a = some o
  live : ∀ a, H' a = none → H a = none
  fnew : ∀ a, a ∉ α → F a = none → H a ≠ none → F' a = none
theorem Stp.refl {α : List Addr} {F H : Hp} : Stp α F H [] F H := ⟨(fun _ h => nomatch h), Sub.refl F, fun _ _ _ h => h, fun _ h => h, fun _ _ h _ => h⟩
theorem Stp.trans {α β γ : List Addr} {F H F1 H1 F2 H2 : Hp} (a : Stp α F H β F1 H1) (b : Stp (α ++ β) F1 H1 γ F2 H2) : Stp α F H (β ++ γ) F2 H2 := by
  have fr : ∀ x o, x ∉ α → H x = some o → H2 x = some o := fun x o n e => b.frame x o (fun z => by
    rcases List.mem_append.mp z with z | z
    · exact n z
    · rw [a.new x z] at e; cases e) (a.frame x o n e)
  refine ⟨fun x hx => ?_, a.sub.trans b.sub, fr, fun x h => a.live x (b.live x h), fun x h1 h2 h3 => b.fnew x (fun z => ?_) (a.fnew x h1 h2 h3) fun z => h3 (a.live x z)⟩
  rotate_left
  · rcases List.mem_append.mp z with z | z
    · exact h1 z
    · exact h3 (a.new x z)
  rcases List.mem_append.mp hx with z | z
  · exact a.new x z
  · exact a.live x (b.new x z)
section
variable {wd : World} {K : Fg} {mg : Str → Option Value} {α β : List Addr} {F F' H H' : Hp} {S S' : Sto}
theorem Own.mono {a : Addr} {d : D} (s : Sub F F') (e : H' a = H a) (h : Own wd K mg F α H a d) : Own wd K mg F' (α ++ β) H' a d := by
  cases d with
  | lst ds => obtain ⟨xs, h1, h2⟩ := h; exact ⟨xs, e.trans h1, h2.mono s⟩
  | dct kvs => obtain ⟨ws, h1, h2, h3⟩ := h; exact ⟨ws, e.trans h1, h2, h3.mono s⟩
  | dcn kvs => obtain ⟨ws, h1, h2⟩ := h; exact ⟨ws, e.trans h1, h2.mono s⟩
  | lck u =>
    cases u with
    | dct kvs => obtain ⟨o, ws, h0, h1, h2, h3⟩ := h; exact ⟨o, ws, s _ _ h0, e.trans h1, h2, h3.mono s⟩
    | dcn kvs => obtain ⟨o, ws, h0, h1, h2⟩ := h; exact ⟨o, ws, s _ _ h0, e.trans h1, h2.mono s⟩
    | _ => exact h.elim
  | non => trivial
  | _ => exact h.elim
theorem Rel.notF (r : Rel wd K mg α F H S) {p : Addr} (hp : H p = none) : F p = none := by
  cases e : F p with
  | none => rfl
  | some u => rw [r.sub _ _ e] at hp; cases hp
theorem Rel.notin (r : Rel wd K mg α F H S) {p : Addr} (hp : H p = none) : p ∉ α := fun h => by
  obtain ⟨o, e⟩ := r.here p h
  rw [hp] at e; cases e
theorem upd_some {H : Hp} {p a : Addr} {o u : HO} (hp : H p = none) (e : H a = some u) : upd H p o a = some u := by
  have z : a ≠ p := fun z => by subst z; rw [hp] at e; cases e
  rw [upd_ne z]; exact e
theorem upd_none {H : Hp} {p a : Addr} {o : HO} (h : upd H p o a = none) : H a = none := by
  by_cases z : a = p
  · subst z; rw [upd_same] at h; cases h
  · rw [upd_ne z] at h; exact h
theorem Sub.upd {F H : Hp} {p : Addr} {o : HO} (s : Sub F H) : Sub (upd F p o) (L2.upd H p o) := fun a u e => by
  by_cases z : a = p
  · subst z; rw [upd_same] at e ⊢; exact e
  · rw [upd_ne z] at e ⊢; exact s _ _ e
theorem Stp.ofNew {p : Addr} {o : HO} (hp : H p = none) (sb : Sub F F') (h : ∀ b ∈ β, b = p) (hf : ∀ a, a ≠ p → F a = none → F' a = none) : Stp α F H β F' (upd H p o) :=
  ⟨fun b hb => by rw [h b hb]; exact hp, sb, fun a u _ e => upd_some hp e, fun a e => upd_none e, fun a _ h2 h3 => hf a (fun z => h3 (z ▸ hp)) h2⟩
theorem Rel.other (r : Rel wd K mg α F H S) {p : Addr} {o : HO} (hp : p ∉ α) (hf : F p = none) : Rel wd K mg α F (upd H p o) S := by
  refine ⟨fun a u e => ?_, r.len, r.nd, fun a h => ?_, fun k a d h1 h2 => ?_⟩
  · have z : a ≠ p := fun z => by subst z; rw [hf] at e; cases e
    rw [upd_ne z]; exact r.sub _ _ e
  · have z : a ≠ p := fun z => hp (z ▸ h)
    obtain ⟨u, e⟩ := r.here a h
    exact ⟨u, by rw [upd_ne z]; exact e⟩
  · obtain ⟨h3, h4⟩ := r.own k a d h1 h2
    have z : a ≠ p := fun z => hp (z ▸ List.mem_of_getElem? h1)
    have h5 : Own wd K mg F (α ++ []) (upd H p o) a d := h3.mono (Sub.refl F) (upd_ne z)
    rw [List.append_nil] at h5
    exact ⟨h5, h4⟩
theorem Stp.other (s : Stp α F H β F' H') {p : Addr} {o : HO} (hp : H p = none) : Stp α F H β F' (upd H' p o) := by
  refine ⟨s.new, s.sub, fun a u h e => ?_, fun a e => s.live a (upd_none e), s.fnew⟩
  have z : a ≠ p := fun z => by subst z; rw [hp] at e; cases e
  rw [upd_ne z]; exact s.frame a u h e
/-- a new thing that stands for good -/
theorem Rel.newF (r : Rel wd K mg α F H S) {p : Addr} {o : HO} (hp : H p = none) : Rel wd K mg (α ++ []) (upd F p o) (upd H p o) S ∧ Stp α F H [] (upd F p o) (upd H p o) := by
  have hF := r.notF hp
  have sb : Sub F (upd F p o) := Sub.new hF
  refine ⟨⟨r.sub.upd, by rw [List.append_nil]; exact r.len, by rw [List.append_nil]; exact r.nd, fun a h => ?_, fun k a d h1 h2 => ?_⟩, Stp.ofNew hp sb (fun _ h => nomatch h) fun a z e => by rw [upd_ne z]; exact e⟩
  · rw [List.append_nil] at h
    obtain ⟨u, e⟩ := r.here a h
    exact ⟨u, upd_some hp e⟩
  · rw [List.append_nil] at h1
    obtain ⟨h3, h4⟩ := r.own k a d h1 h2
    have z : a ≠ p := fun z => r.notin hp (z ▸ List.mem_of_getElem? h1)
    exact ⟨h3.mono sb (upd_ne z), fun hd => by rw [upd_ne z]; exact h4 hd⟩
/-- a new thing of the store -/
theorem Rel.newO (r : Rel wd K mg α F H S) {p : Addr} {o : HO} {d : D} (hp : H p = none) (hd : Own wd K mg F (α ++ [p]) (upd H p o) p d) : Rel wd K mg (α ++ [p]) F (upd H p o) (S ++ [d]) ∧ Stp α F H [p] F (upd H p o) := by
  have hF := r.notF hp
  refine ⟨⟨fun a u e => upd_some hp (r.sub _ _ e), by rw [List.length_append, List.length_append, r.len]; rfl, ?_, fun a h => ?_, fun k a e h1 h2 => ?_⟩, Stp.ofNew hp (Sub.refl F) (fun b h => by simpa using h) fun a _ e => e⟩
  · refine List.nodup_append.mpr ⟨r.nd, by simp, fun a ha b hb z => ?_⟩
    have : b = p := by simpa using hb
    subst this; subst z
    exact r.notin hp ha
  · rcases List.mem_append.mp h with h | h
    · obtain ⟨u, e⟩ := r.here a h
      exact ⟨u, upd_some hp e⟩
    · have : a = p := by simpa using h
      subst this
      exact ⟨_, upd_same⟩
  · have hk : k < (α ++ [p]).length := (List.getElem?_eq_some_iff.mp h1).1
    by_cases q : k < α.length
    · rw [List.getElem?_append_left q] at h1
      rw [List.getElem?_append_left (by rw [← r.len]; exact q)] at h2
      obtain ⟨h3, h4⟩ := r.own k a e h1 h2
      have z : a ≠ p := fun z => r.notin hp (z ▸ List.mem_of_getElem? h1)
      exact ⟨h3.mono (Sub.refl F) (upd_ne z), h4⟩
    · have hk' : k = α.length := by rw [List.length_append] at hk; simp at hk; omega
      subst hk'
      rw [List.getElem?_append_right (Nat.le_refl _), Nat.sub_self] at h1
      rw [r.len, List.getElem?_append_right (Nat.le_refl _), Nat.sub_self] at h2
      simp at h1 h2
      subst h1; subst h2
      exact ⟨hd, fun _ => hF⟩
/-- the store's object k is changed -/
theorem Rel.setO (r : Rel wd K mg α F H S) {k : Nat} {a : Addr} {o : HO} {d e : D} (h1 : α[k]? = some a) (h2 : S[k]? = some e) (he : e.open = true) (hd : Own wd K mg F α (upd H a o) a d) :
    Rel wd K mg (α ++ []) F (upd H a o) (S.set k d) ∧ Stp α F H [] F (upd H a o) := by
  obtain ⟨_, q⟩ := r.own k a e h1 h2
  have hF := q he
  have hn := r.nd
  have ha : a ∈ α := List.mem_of_getElem? h1
  refine ⟨⟨fun b u e => ?_, by rw [List.append_nil, List.length_set]; exact r.len, by rw [List.append_nil]; exact r.nd, fun b h => ?_, fun j b u g1 g2 => ?_⟩, ⟨(fun _ h => nomatch h), Sub.refl F, fun b u hb e => ?_, fun b e => upd_none e, fun _ _ h _ => h⟩⟩
  · have z : b ≠ a := fun z => by subst z; rw [hF] at e; cases e
    rw [upd_ne z]; exact r.sub _ _ e
  · rw [List.append_nil] at h
    by_cases z : b = a
    · subst z; exact ⟨_, upd_same⟩
    · obtain ⟨u, e⟩ := r.here b h
      exact ⟨u, by rw [upd_ne z]; exact e⟩
  · rw [List.append_nil] at g1
    by_cases z : j = k
    · subst z
      rw [h1] at g1; cases g1
      rw [List.getElem?_set_self (List.getElem?_eq_some_iff.mp h2).1] at g2
      cases g2
      rw [List.append_nil]
      exact ⟨hd, fun _ => hF⟩
    · rw [List.getElem?_set_ne (Ne.symm z)] at g2
      obtain ⟨h3, h4⟩ := r.own j b u g1 g2
      have y : b ≠ a := fun y => by
        subst y
        exact z ((List.getElem_inj hn).mp ((List.getElem?_eq_some_iff.mp g1).2.trans (List.getElem?_eq_some_iff.mp h1).2.symm))
      exact ⟨h3.mono (Sub.refl F) (upd_ne y), h4⟩
  · have z : b ≠ a := fun z => hb (z ▸ ha)
    rw [upd_ne z]; exact e
end

section
variable {wd : World} {K : Fg} {mg : Str → Option Value} {α β : List Addr} {F F' H H' : Hp} {S S' : Sto}
/-- a thing that stands by itself becomes the store's -/
theorem Rel.adopt (r : Rel wd K mg α F H S) {p : Addr} {d : D} (hp : p ∉ α) (hf : F p = none) (hd : Own wd K mg F α H p d) (hn : d.open = true) : Rel wd K mg (α ++ [p]) F H (S ++ [d]) := by
  have ex : ∃ o, H p = some o := by
    cases d with
    | lst ds => obtain ⟨xs, e, _⟩ := hd; exact ⟨_, e⟩
    | dct kvs => obtain ⟨xs, e, _⟩ := hd; exact ⟨_, e⟩
    | dcn kvs => obtain ⟨xs, e, _⟩ := hd; exact ⟨_, e⟩
    | non => cases hn
    | lck _ => cases hn
    | _ => exact hd.elim
  refine ⟨r.sub, by rw [List.length_append, List.length_append, r.len]; rfl, ?_, fun a h => ?_, fun k a e h1 h2 => ?_⟩
  · refine List.nodup_append.mpr ⟨r.nd, by simp, fun a ha b hb z => ?_⟩
    have : b = p := by simpa using hb
    subst this; subst z
    exact hp ha
  · rcases List.mem_append.mp h with h | h
    · exact r.here a h
    · have : a = p := by simpa using h
      subst this
      exact ex
  · have hk : k < (α ++ [p]).length := (List.getElem?_eq_some_iff.mp h1).1
    by_cases q : k < α.length
    · rw [List.getElem?_append_left q] at h1
      rw [List.getElem?_append_left (by rw [← r.len]; exact q)] at h2
      obtain ⟨h3, h4⟩ := r.own k a e h1 h2
      exact ⟨h3.mono (Sub.refl F) rfl, h4⟩
    · have hk' : k = α.length := by rw [List.length_append] at hk; simp at hk; omega
      subst hk'
      rw [List.getElem?_append_right (Nat.le_refl _), Nat.sub_self] at h1
      rw [r.len, List.getElem?_append_right (Nat.le_refl _), Nat.sub_self] at h2
      simp at h1 h2
      subst h1; subst h2
      exact ⟨hd.mono (Sub.refl F) rfl, fun _ => hf⟩
/-- a thing that stands by itself stands for good -/
theorem Rel.freeze (r : Rel wd K mg α F H S) {p : Addr} {o : HO} (hp : p ∉ α) (hf : F p = none) (ho : H p = some o) : Rel wd K mg α (upd F p o) H S ∧ Sub F (upd F p o) := by
  have sb : Sub F (upd F p o) := Sub.new hf
  refine ⟨⟨fun a u e => ?_, r.len, r.nd, r.here, fun k a d h1 h2 => ?_⟩, sb⟩
  · by_cases z : a = p
    · subst z; rw [upd_same] at e; rw [ho]; exact e
    · rw [upd_ne z] at e; exact r.sub _ _ e
  · obtain ⟨h3, h4⟩ := r.own k a d h1 h2
    have z : a ≠ p := fun z => hp (z ▸ List.mem_of_getElem? h1)
    have h5 : Own wd K mg (upd F p o) (α ++ []) H a d := h3.mono sb rfl
    rw [List.append_nil] at h5
    exact ⟨h5, fun hd => by rw [upd_ne z]; exact h4 hd⟩
end
/-! ### what is wanted of a result -/
def ErrAt (wd : World) (K : Fg) (mg : Str → Option Value) (F : Hp) (α : List Addr) (c : Str) (fs : List (Str × D)) (cls : Value) (dd : Option Addr) (H : Hp) : Prop :=
  mg c = some cls ∧ (fs = [] ∨ ∃ d xs, dd = some d ∧ H d = some (.xd xs) ∧ xs.map (·.1) = fs.map (·.1) ∧ DVs wd K mg F α (xs.map (·.2)) (fs.map (·.2)))
abbrev RelT (B A : Type) := Hp → List Addr → B → A → Prop
def wp {A B : Type} (wd : World) (K : Fg) (mg : Str → Option Value) (α : List Addr) (F H : Hp) (rel : RelT B A) (r : Res A) (Q : B → Hp → Prop) (W : XK) : Prop := match r with
  | .ok a S' => ∀ b H' β F', Rel wd K mg (α ++ β) F' H' S' → Stp α F H β F' H' → rel F' (α ++ β) b a → Q b H'
  | .err c fs S' => ∀ cls dd H' β F', Rel wd K mg (α ++ β) F' H' S' → Stp α F H β F' H' → ErrAt wd K mg F' (α ++ β) c fs cls dd H' → W cls dd H'
  | .stuck => False
section
variable {A B A' B' : Type} {wd : World} {K : Fg} {mg : Str → Option Value} {α β : List Addr} {F F1 H H1 : Hp} {S : Sto} {rel : RelT B A} {rel' : RelT B' A'} {r : Res A} {Q Q1 : B → Hp → Prop} {Q' : B' → Hp → Prop} {W : XK}
theorem wp.step (st : Stp α F H β F1 H1) (h : wp wd K mg α F H rel r Q W) : wp wd K mg (α ++ β) F1 H1 rel r Q W := by
  cases r with
  | ok a S' => intro b H' γ F' hr hs hv; rw [List.append_assoc] at hr hv; exact h b H' (β ++ γ) F' hr (st.trans hs) hv
  | err c fs S' => intro cls dd H' γ F' hr hs hv; rw [List.append_assoc] at hr hv; exact h cls dd H' (β ++ γ) F' hr (st.trans hs) hv
  | stuck => exact h
theorem wp.bind {f : A → Sto → Res A'} (h : wp wd K mg α F H rel' (r.bind f) Q' W)
    (k : ∀ a S1, r = .ok a S1 → ∀ x H1 β F1, Rel wd K mg (α ++ β) F1 H1 S1 → Stp α F H β F1 H1 → rel F1 (α ++ β) x a → wp wd K mg (α ++ β) F1 H1 rel' (f a S1) Q' W → Q1 x H1) : wp wd K mg α F H rel r Q1 W := by
  cases r with
  | ok a S' => exact fun b H' β F' hr hs hv => k a S' rfl b H' β F' hr hs hv (wp.step hs h)
  | err c fs S' => exact h
  | stuck => exact h
theorem wp.imp (h : wp wd K mg α F H rel r Q W) (k : ∀ b H', Q b H' → Q1 b H') : wp wd K mg α F H rel r Q1 W := by
  cases r with
  | ok a S' => exact fun b H' β F' hr hs hv => k b H' (h b H' β F' hr hs hv)
  | err c fs S' => exact h
  | stuck => exact h
/-- a result that is at hand -/
theorem wp.now {a : A} (h : wp wd K mg α F H rel (.ok a S) Q W) (hr : Rel wd K mg α F H S) {b : B} (hv : rel F α b a) : Q b H := by
  have e : α ++ [] = α := List.append_nil α
  exact h b H [] F (by rw [e]; exact hr) Stp.refl (by rw [e]; exact hv)
theorem wp.lift {o : Option A} (h : wp wd K mg α F H rel (.lift o S) Q W) : ∃ a, o = some a ∧ wp wd K mg α F H rel (.ok a S) Q W := by
  cases o with
  | some a => exact ⟨a, rfl, h⟩
  | none => exact h.elim
end
def Slots (wd : World) (K : Fg) (mg : Str → Option Value) (F : Hp) (α : List Addr) (σ : L2.St) (δ : Sl) : Prop :=
  σ.length = δ.length ∧ ∀ (i : Nat) (d : D), δ[i]? = some (some d) → ∃ v, σ[i]? = some (some v) ∧ DV wd K mg F α v d
theorem Slots.mono {wd : World} {K : Fg} {mg : Str → Option Value} {F F' : Hp} {α β : List Addr} {σ : L2.St} {δ : Sl} (h : Slots wd K mg F α σ δ) (s : Sub F F') : Slots wd K mg F' (α ++ β) σ δ :=
  ⟨h.1, fun i d e => let ⟨v, h1, h2⟩ := h.2 i d e; ⟨v, h1, h2.mono s⟩⟩
theorem Slots.set {wd : World} {K : Fg} {mg : Str → Option Value} {F : Hp} {α : List Addr} {σ : L2.St} {δ : Sl} {i : Nat} {v : V} {d : D} (h : Slots wd K mg F α σ δ) (hv : DV wd K mg F α v d) : Slots wd K mg F α (σ.set i (some v)) (δ.set i (some d)) := by
  refine ⟨by rw [List.length_set, List.length_set]; exact h.1, fun j e g => ?_⟩
  by_cases z : j = i
  · subst z
    have hj : j < δ.length := by
      have := (List.getElem?_eq_some_iff.mp g).1
      rw [List.length_set] at this; exact this
    rw [List.getElem?_set_self hj] at g
    cases g
    exact ⟨v, List.getElem?_set_self (by rw [h.1]; exact hj), hv⟩
  · rw [List.getElem?_set_ne (Ne.symm z)] at g
    rw [List.getElem?_set_ne (Ne.symm z)]
    exact h.2 j e g
def relD (wd : World) (K : Fg) (mg : Str → Option Value) : RelT V D := fun F α v d => DV wd K mg F α v d
def relB : RelT Bool Bool := fun _ _ b a => b = a
def relA (wd : World) (K : Fg) (mg : Str → Option Value) : RelT (List V) (List D) := fun F α v d => DVs wd K mg F α v d

def SndE (wd : World) (K : Fg) (mg : Str → Option Value) (W : WX) (t : TE) (r : RE) : Prop := ∀ α F σ H δ S (Q : VK), Rel wd K mg α F H S → Slots wd K mg F α σ δ → wp wd K mg α F H (relD wd K mg) (r δ S) Q (fun c d H' => W c d σ H') → t σ H Q
def SndB (wd : World) (K : Fg) (mg : Str → Option Value) (W : WX) (t : TT) (r : RB) : Prop := ∀ α F σ H δ S (Q : Bool → Hp → Prop), Rel wd K mg α F H S → Slots wd K mg F α σ δ → wp wd K mg α F H relB (r δ S) Q (fun c d H' => W c d σ H') → t σ H Q
def SndA (wd : World) (K : Fg) (mg : Str → Option Value) (W : WX) (t : TA) (r : RA) : Prop := ∀ α F σ H δ S (Q : List V → Hp → Prop), Rel wd K mg α F H S → Slots wd K mg F α σ δ → wp wd K mg α F H (relA wd K mg) (r δ S) Q (fun c d H' => W c d σ H') → t σ H Q
/-- an expression, a test, arguments by their mirrors -/
structure PD (X : Cx) (W : WX) (e : Expr) (r : RE) : Prop where
  ex : ∃ t, PE X e t ∧ SndE X.w X.K X.mg W t r
structure PB (X : Cx) (W : WX) (e : Expr) (r : RB) : Prop where
  ex : ∃ t, PT X e t ∧ SndB X.w X.K X.mg W t r
structure PBw (X : Cx) (W : WX) (e : Expr) (r : RB) : Prop where
  ex : ∃ t, PW X e t ∧ SndB X.w X.K X.mg W t r
structure PDs (X : Cx) (W : WX) (es : List Expr) (r : RA) : Prop where
  ex : ∃ t, PA X es t ∧ SndA X.w X.K X.mg W t r
  len : ∀ δ S ds S', r δ S = .ok ds S' → ds.length = es.length

section
variable {X : Cx} {W : WX} {a b c e : Expr} {es rest : List Expr} {ra rb rc : RE} {ba bb : RB} {rs : RA} {pos p : Pos}
theorem pd_var (i : Nat) {x : Str} {pos : Pos} (hN : X.N[i]? = some x := by rfl) (hv : Vis X.env.scope x := by first | exact Or.inl rfl | exact Or.inr (Or.inl rfl) | exact Or.inr (Or.inr rfl)) (hd : (x == ("__debug__" : Str)) = false := by decide) (hcd : (x == ("__classdict__" : Str)) = false := by decide) : PD X W (.Name x pos) (rVar i) := by
  refine ⟨tVar i, pe_var hN hv hd hcd, fun α F σ H δ S Q hr hs h => ?_⟩
  unfold rVar at h
  split at h
  · rename_i d e
    obtain ⟨v, h1, h2⟩ := hs.2 i d e
    exact ⟨v, h1, h.now hr h2⟩
  · exact h.elim
theorem pd_c {d : D} {v : V} (h : PE X e (tC v)) (hv : ∀ F α, DV X.w X.K X.mg F α v d) : PD X W e (rC d) := ⟨tC v, h, fun α F σ H δ S Q hr hs h => h.now hr (hv F α)⟩
theorem pd_int {i : Int} {j : Nat} : PD X W (.Constant (.int i) j pos) (rC (.int i)) := pd_c pe_int fun _ _ => .int i
theorem pd_bl {i : Bool} {j : Nat} : PD X W (.Constant (.bool i) j pos) (rC (.bl i)) := pd_c pe_bl fun _ _ => .bl i
theorem pd_non {j : Nat} : PD X W (.Constant .none j pos) (rC .non) := pd_c pe_non fun _ _ => .non
theorem pd_str {x : Str} {j : Nat} : PD X W (.Constant (.str x) j pos) (rC (.str x)) := pd_c pe_str fun _ _ => .str x
/-- a module's constant: an int, a text -/
theorem pd_gi {x : Str} {i : Int} {t : Tok} (hm : X.mg x = some (.int i t)) (hg : Gl X x := by rfl) (hd : (x == ("__debug__" : Str)) = false := by decide) : PD X W (.Name x pos) (rC (.int i)) := pd_c (v := .int i) (pe_glob hg hm ⟨t, rfl⟩ hd) fun _ _ => .int i
theorem pd_gs {x y : Str} {t : Tok} (hm : X.mg x = some (.str y t)) (hg : Gl X x := by rfl) (hd : (x == ("__debug__" : Str)) = false := by decide) : PD X W (.Name x pos) (rC (.str y)) := pd_c (v := .str y) (pe_glob hg hm ⟨t, rfl⟩ hd) fun _ _ => .str y

/-! operators by values -/
def OkG (X : Cx) (r : R2) (g : Sto → D → D → Option D) : Prop := ∀ α F H S (x y : V) (d e z : D) (Q : VK), Rel X.w X.K X.mg α F H S → DV X.w X.K X.mg F α x d → DV X.w X.K X.mg F α y e → g S d e = some z →
  (∀ v H' β F', Rel X.w X.K X.mg (α ++ β) F' H' S → Stp α F H β F' H' → DV X.w X.K X.mg F' (α ++ β) v z → Q v H') → r x y H Q
structure OpG (X : Cx) (f : Value → Value → Sem Value) (g : Sto → D → D → Option D) : Prop where
  ex : ∃ r, OpR X f r ∧ OkG X r g
theorem SndE.bin {wd : World} {K : Fg} {mg : Str → Option Value} {ta tb : TE} {g : Sto → D → D → Option D} {k : V → V → Hp → VK → Prop} (sa : SndE wd K mg W ta ra) (sb : SndE wd K mg W tb rb)
    (hk : ∀ α F H S (x y : V) (d e z : D) (Q : VK), Rel wd K mg α F H S → DV wd K mg F α x d → DV wd K mg F α y e → g S d e = some z →
      (∀ v H' β F', Rel wd K mg (α ++ β) F' H' S → Stp α F H β F' H' → DV wd K mg F' (α ++ β) v z → Q v H') → k x y H Q) :
    SndE wd K mg W (fun σ H Q => ta σ H fun x H1 => tb σ H1 fun y H2 => k x y H2 Q) (rBin g ra rb) := by
  intro α F σ H δ S Q hr hs h
  refine sa α F σ H δ S _ hr hs (wp.bind h fun d S1 _ x H1 β F1 r1 s1 v1 h1 => ?_)
  refine sb (α ++ β) F1 σ H1 δ S1 _ r1 (hs.mono s1.sub) (wp.bind h1 fun e S2 _ y H2 γ F2 r2 s2 v2 h2 => ?_)
  obtain ⟨z, e1, h3⟩ := wp.lift h2
  exact hk (α ++ β ++ γ) F2 H2 S2 x y d e z Q r2 (v1.mono s2.sub) v2 e1 fun v H' ε F' r3 s3 v3 => h3 v H' ε F' r3 s3 v3
theorem pd_bin {op : Operator} {g : Sto → D → D → Option D} (ho : OpG X (binaryOp op) g) (ha : PD X W a ra) (hb : PD X W b rb) : PD X W (.BinOp a op b pos) (rBin g ra rb) := by
  obtain ⟨r, h1, h2⟩ := ho.ex
  obtain ⟨ta, pa, sa⟩ := ha.ex
  obtain ⟨tb, pb, sb⟩ := hb.ex
  exact ⟨_, pe_op h1 pa pb, sa.bin sb h2⟩
theorem pd_cmp {op : CmpOp} {g : Sto → D → D → Option D} (ho : OpG X (compareOp op) g) (ha : PD X W a ra) (hb : PD X W b rb) (hm : behindInMarks op b = false) : PD X W (.Compare a [op] [b] pos) (rBin g ra rb) := by
  obtain ⟨r, h1, h2⟩ := ho.ex
  obtain ⟨ta, pa, sa⟩ := ha.ex
  obtain ⟨tb, pb, sb⟩ := hb.ex
  exact ⟨_, pe_cmpR h1 pa pb hm, sa.bin sb h2⟩
/-- the truth of a True or False -/
def bVal (a : RE) : RB := fun δ S => (a δ S).bind fun x S1 => match x with
  | .bl b => .ok b S1
  | _ => .stuck
theorem SndE.val {wd : World} {K : Fg} {mg : Str → Option Value} {t : TE} (s : SndE wd K mg W t ra) : SndB wd K mg W (tTest t) (bVal ra) := by
  intro α F σ H δ S Q hr hs h
  refine s α F σ H δ S _ hr hs (wp.bind h fun d S1 _ x H1 β F1 r1 s1 v1 h1 => ?_)
  cases d with
  | bl b => cases v1; exact ⟨b, rfl, h1.now r1 rfl⟩
  | _ => exact h1.elim
theorem pb_cmp {op : CmpOp} {g : Sto → D → D → Option D} (ho : OpG X (compareOp op) g) (ha : PD X W a ra) (hb : PD X W b rb) (hm : behindInMarks op b = false) : PB X W (.Compare a [op] [b] pos) (bVal (rBin g ra rb)) := by
  obtain ⟨r, h1, h2⟩ := ho.ex
  obtain ⟨ta, pa, sa⟩ := ha.ex
  obtain ⟨tb, pb, sb⟩ := hb.ex
  exact ⟨_, pt_cmpR h1 pa pb hm, (sa.bin sb h2).val⟩
end
end DL

set_option Elab.async false
set_option linter.all false
set_option maxRecDepth 100000
set_option maxHeartbeats 4000000
set_option autoImplicit false
/-! Data layer, third part: calls, tests, statements, loops, comprehensions, defs. -/
namespace DL
open PySem PySem.Spec PyProof.Rows L2

section
variable {X : Cx} {W : WX} {a b c e : Expr} {es rest : List Expr} {ra rb rc : RE} {ba bb : RB} {rs : RA} {pos p : Pos} {wd : World} {K : Fg} {mg : Str → Option Value}
/-! ### one value -/
def OkU (X : Cx) (r : V → Hp → VK → Prop) (g : Sto → D → Option D) : Prop := ∀ α F H S (x : V) (d z : D) (Q : VK), Rel X.w X.K X.mg α F H S → DV X.w X.K X.mg F α x d → g S d = some z →
  (∀ v H' β F', Rel X.w X.K X.mg (α ++ β) F' H' S → Stp α F H β F' H' → DV X.w X.K X.mg F' (α ++ β) v z → Q v H') → r x H Q
theorem SndE.un {ta : TE} {g : Sto → D → Option D} {k : V → Hp → VK → Prop} (sa : SndE wd K mg W ta ra)
    (hk : ∀ α F H S (x : V) (d z : D) (Q : VK), Rel wd K mg α F H S → DV wd K mg F α x d → g S d = some z → (∀ v H' β F', Rel wd K mg (α ++ β) F' H' S → Stp α F H β F' H' → DV wd K mg F' (α ++ β) v z → Q v H') → k x H Q) :
    SndE wd K mg W (fun σ H Q => ta σ H fun x H1 => k x H1 Q) (rUn g ra) := by
  intro α F σ H δ S Q hr hs h
  refine sa α F σ H δ S _ hr hs (wp.bind h fun d S1 _ x H1 β F1 r1 s1 v1 h1 => ?_)
  obtain ⟨z, e1, h3⟩ := wp.lift h1
  exact hk (α ++ β) F1 H1 S1 x d z Q r1 v1 e1 fun v H' ε F' r3 s3 v3 => h3 v H' ε F' r3 s3 v3
theorem pd_un {op : UnaryOp} {r : V → Hp → VK → Prop} {g : Sto → D → Option D} (ho : UnR X (unaryOp op) r) (hg : OkU X r g) (ha : PD X W a ra) : PD X W (.UnaryOp op a pos) (rUn g ra) := by
  obtain ⟨ta, pa, sa⟩ := ha.ex
  exact ⟨_, pe_un ho pa, sa.un hg⟩

/-! ### arguments, displays -/
theorem pds_nil : PDs X W [] rNil := ⟨⟨tNil, pa_nil, fun α F σ H δ S Q hr hs h => h.now hr .nil⟩, fun δ S ds S' h => by cases h; rfl⟩
theorem SndE.cons {te : TE} {t : TA} (s1 : SndE wd K mg W te ra) (s2 : SndA wd K mg W t rs) : SndA wd K mg W (tCons te t) (rCons ra rs) := by
  intro α F σ H δ S Q hr hs h
  refine s1 α F σ H δ S _ hr hs (wp.bind h fun d S1 _ x H1 β F1 r1 q1 v1 h1 => ?_)
  refine s2 (α ++ β) F1 σ H1 δ S1 _ r1 (hs.mono q1.sub) (wp.bind h1 fun e S2 _ y H2 γ F2 r2 q2 v2 h2 => ?_)
  exact h2.now r2 (.cons (v1.mono q2.sub) v2)
theorem pds_cons (ha : PD X W e ra) (hr : PDs X W es rs) (hs : starEach (e :: es) X.env = (false, eval e X.env) :: starEach es X.env := by rfl) : PDs X W (e :: es) (rCons ra rs) := by
  obtain ⟨ta, pa, sa⟩ := ha.ex
  obtain ⟨t, pt, st⟩ := hr.ex
  refine ⟨⟨_, pa_cons pa pt hs, sa.cons st⟩, fun δ S ds S' h => ?_⟩
  unfold rCons at h
  cases q : ra δ S with
  | ok d S1 =>
    rw [q] at h
    have h' : (rs δ S1).bind (fun ys S2 => .ok (d :: ys) S2) = .ok ds S' := h
    cases q2 : rs δ S1 with
    | ok ys S2 =>
      rw [q2] at h'
      have h2 : Res.ok (d :: ys) S2 = .ok ds S' := h'
      cases h2
      rw [List.length_cons, List.length_cons, hr.len _ _ _ _ q2]
    | err c fs S2 => rw [q2] at h'; cases h'
    | stuck => rw [q2] at h'; cases h'
  | err c fs S1 => rw [q] at h; cases h
  | stuck => rw [q] at h; cases h
/-- a new tuple, a new list at p -/
theorem PlT.new {K : Fg} {F : Hp} {p : Addr} {xs : List V} {o : Obj} (h : o.dict = none) : PlT K (upd F p (.frz o (.tup xs))) p xs := ⟨.inl (.inr ⟨o, upd_same⟩), .inl ⟨o, upd_same, h⟩⟩
theorem Rel.tup {α : List Addr} {F H : Hp} {S : Sto} {xs : List V} {ds : List D} (hr : Rel wd K mg α F H S) (hv : DVs wd K mg F α xs ds) {p : Addr} {o : Obj} (hp : H p = none) (ho : o.dict = none) : Rel wd K mg (α ++ []) (upd F p (.frz o (.tup xs))) (upd H p (.frz o (.tup xs))) S ∧ Stp α F H [] (upd F p (.frz o (.tup xs))) (upd H p (.frz o (.tup xs))) ∧ DV wd K mg (upd F p (.frz o (.tup xs))) (α ++ []) (.ref p) (.tup ds) := by
  obtain ⟨h1, h2⟩ := hr.newF (o := .frz o (.tup xs)) hp
  exact ⟨h1, h2, .tup (PlT.new ho) (hv.mono h2.sub)⟩
theorem Rel.lst {α : List Addr} {F H : Hp} {S : Sto} {xs : List V} {ds : List D} (hr : Rel wd K mg α F H S) (hv : DVs wd K mg F α xs ds) {p : Addr} (hp : H p = none) : Rel wd K mg (α ++ []) (upd F p (.lst xs)) (upd H p (.lst xs)) S ∧ Stp α F H [] (upd F p (.lst xs)) (upd H p (.lst xs)) ∧ DV wd K mg (upd F p (.lst xs)) (α ++ []) (.ref p) (.lst ds) := by
  obtain ⟨h1, h2⟩ := hr.newF (o := .lst xs) hp
  exact ⟨h1, h2, .lst (.inl (Rd.of upd_same)) (hv.mono h2.sub)⟩
theorem pd_tup {x1 : Nat} (h : PDs X W es rs) : PD X W (.Tuple es x1 pos) (rTup rs) := by
  obtain ⟨t, pt, st⟩ := h.ex
  refine ⟨_, pe_tupP pt, fun α F σ H δ S Q hr hs h => ?_⟩
  refine st α F σ H δ S _ hr hs (wp.bind h fun ds S1 _ xs H1 β F1 r1 q1 v1 h1 => ?_)
  split at h1
  · rename_i hl
    refine ⟨by rw [v1.length]; exact hl, fun q hq o ho => ?_⟩
    obtain ⟨a1, a2, a3⟩ := r1.tup v1 hq ho
    exact h1 _ _ _ _ a1 a2 a3
  · exact h1.elim
/-- a thing that is made, at p: it may stand for good, or be the store's -/
def wpF (wd : World) (K : Fg) (mg : Str → Option Value) (α : List Addr) (F H : Hp) (r : Res D) (Q : VK) (W : XK) : Prop := match r with
  | .ok d S' => ∀ p H' β F', Rel wd K mg (α ++ β) F' H' S' → Stp α F H β F' H' → H p = none → p ∉ α ++ β → F' p = none → Own wd K mg F' (α ++ β) H' p d → d.open = true → Q (.ref p) H'
  | .err c fs S' => ∀ cls dd H' β F', Rel wd K mg (α ++ β) F' H' S' → Stp α F H β F' H' → ErrAt wd K mg F' (α ++ β) c fs cls dd H' → W cls dd H'
  | .stuck => False
theorem wpF.step {α β : List Addr} {F H F1 H1 : Hp} {r : Res D} {Q : VK} {W : XK} (st : Stp α F H β F1 H1) (h : wpF wd K mg α F H r Q W) : wpF wd K mg (α ++ β) F1 H1 r Q W := by
  cases r with
  | ok d S' =>
    intro p H' γ F' hr hs hp ha hf ho hd
    rw [List.append_assoc] at hr ha ho
    exact h p H' (β ++ γ) F' hr (st.trans hs) (st.live p hp) ha hf ho hd
  | err c fs S' => intro cls dd H' γ F' hr hs hv; rw [List.append_assoc] at hr hv; exact h cls dd H' (β ++ γ) F' hr (st.trans hs) hv
  | stuck => exact h
structure PF (X : Cx) (W : WX) (e : Expr) (r : RE) : Prop where
  ex : ∃ t, PE X e t ∧ ∀ α F σ H δ S (Q : VK), Rel X.w X.K X.mg α F H S → Slots X.w X.K X.mg F α σ δ → wpF X.w X.K X.mg α F H (r δ S) Q (fun c d H' => W c d σ H') → t σ H Q
theorem wpF.bind {A B : Type} {α : List Addr} {F H : Hp} {rel : RelT B A} {r : Res A} {f : A → Sto → Res D} {Q : VK} {Q1 : B → Hp → Prop} {W : XK} (h : wpF wd K mg α F H (r.bind f) Q W)
    (k : ∀ a S1, r = .ok a S1 → ∀ x H1 β F1, Rel wd K mg (α ++ β) F1 H1 S1 → Stp α F H β F1 H1 → rel F1 (α ++ β) x a → wpF wd K mg (α ++ β) F1 H1 (f a S1) Q W → Q1 x H1) : wp wd K mg α F H rel r Q1 W := by
  cases r with
  | ok a S' => exact fun b H' β F' hr hs hv => k a S' rfl b H' β F' hr hs hv (wpF.step hs h)
  | err c fs S' => exact h
  | stuck => exact h
/-- a new list, laid now -/
theorem wpF.lay {α : List Addr} {F H : Hp} {S : Sto} {Q : VK} {W : XK} {p : Addr} {o : HO} {d : D} (h : wpF wd K mg α F H (.ok d S) Q W) (hr : Rel wd K mg α F H S) (hp : H p = none) (ho : Own wd K mg F α (upd H p o) p d) (hd : d.open = true) : Q (.ref p) (upd H p o) := by
  have e : α ++ [] = α := List.append_nil α
  have n := hr.notin hp
  have f := hr.notF hp
  exact h p _ [] F (by rw [e]; exact hr.other n f) (Stp.refl.other hp) hp (by rw [e]; exact n) f (by rw [e]; exact ho) hd
theorem pd_own (h : PF X W e ra) : PD X W e (rOwn ra) := by
  obtain ⟨t, pt, st⟩ := h.ex
  refine ⟨t, pt, fun α F σ H δ S Q hr hs h => st α F σ H δ S Q hr hs ?_⟩
  unfold rOwn at h
  cases q : ra δ S with
  | ok d S' =>
    rw [q] at h
    intro p H' β F' r1 s1 hp ha hf ho hd
    have h2 : wp X.w X.K X.mg α F H (relD X.w X.K X.mg) (.ok (.ptr S'.length) (S' ++ [d])) Q _ := h
    refine h2 (.ref p) H' (β ++ [p]) F' ?_ ⟨fun b hb => ?_, s1.sub, s1.frame, s1.live, s1.fnew⟩ ?_
    · rw [← List.append_assoc]
      exact r1.adopt ha hf ho hd
    · rcases List.mem_append.mp hb with z | z
      · exact s1.new b z
      · have : b = p := by simpa using z
        rw [this]; exact hp
    · rw [← List.append_assoc]
      refine .ptr ?_
      rw [List.getElem?_append_right (by rw [r1.len]; exact Nat.le_refl _), r1.len, Nat.sub_self] <;> rfl
  | err c fs S' => rw [q] at h; exact h
  | stuck => rw [q] at h; exact h
/-- a list that stands for good -/
def rKeep (a : RE) : RE := fun δ S => (a δ S).bind fun d S1 => match d with
  | .lst ds => .ok (.lst ds) S1
  | _ => .stuck
theorem pd_keep (h : PF X W e ra) : PD X W e (rKeep ra) := by
  obtain ⟨t, pt, st⟩ := h.ex
  refine ⟨t, pt, fun α F σ H δ S Q hr hs h => st α F σ H δ S Q hr hs ?_⟩
  unfold rKeep at h
  cases q : ra δ S with
  | ok d S' =>
    rw [q] at h
    intro p H' β F' r1 s1 hp ha hf ho hd
    cases d with
    | lst ds =>
      have h2 : wp X.w X.K X.mg α F H (relD X.w X.K X.mg) (.ok (.lst ds) S') Q _ := h
      obtain ⟨xs, o1, o2⟩ := ho
      obtain ⟨a1, a2⟩ := r1.freeze (o := .lst xs) ha hf o1
      exact h2 (.ref p) H' β (upd F' p (.lst xs)) a1 ⟨s1.new, s1.sub.trans a2, s1.frame, s1.live, fun a g1 g2 g3 => by
        have z : a ≠ p := fun z => g3 (z ▸ hp)
        rw [upd_ne z]; exact s1.fnew a g1 g2 g3⟩ (.lst (.inl (Rd.of upd_same)) (by have := o2.mono (β := []) a2; rw [List.append_nil] at this; exact this))
    | _ => exact (show False from h).elim
  | err c fs S' => rw [q] at h; exact h
  | stuck => rw [q] at h; exact h
theorem pf_lst (h : PDs X W es rs) : PF X W (.List es pos) (rLst rs) := by
  obtain ⟨t, pt, st⟩ := h.ex
  refine ⟨_, pe_lst pt, fun α F σ H δ S Q hr hs h => ?_⟩
  refine st α F σ H δ S _ hr hs (wpF.bind h fun ds S1 _ xs H1 β F1 r1 q1 v1 h1 => ?_)
  split at h1
  · rename_i hl
    refine ⟨by rw [v1.length]; exact hl, fun p hp => h1.lay r1 hp ⟨xs, upd_same, v1⟩ rfl⟩
  · exact h1.elim

/-! ### calls -/
def spD (wd : World) (K : Fg) (mg : Str → Option Value) (n : Nat) (m : Mir) : Sp := fun vs H Q E => vs.length = n ∧ ∃ α F S ds, Rel wd K mg α F H S ∧ DVs wd K mg F α vs ds ∧ wp wd K mg α F H (relD wd K mg) (m ds S) Q E
/-- a def that keeps its promise where no repr is under way -/
structure FnG (P : Program) (w : World) (K : Fg) (mg : Str → Option Value) (base : Heap) (k : Nat) (f : Addr) (fd : FuncData) (ps : List Str) (sp : Sp) : Prop where
  len : ∀ vs H Q E, sp vs H Q E → vs.length = ps.length
  run : ∀ (A : Around) (outer : List Env) (s : Shared) (H : Hp) (args : Args) (us : List Value) (vs : List V) (Q : VK) (E : XK), Room k A → A.guards = some [] → Env0 P w K mg base A outer s H → BindsTo s fd args (ps.zip us) → Vals vs us → sp vs H Q E → codeAny (model P w) A (.call (.ref f) args) (CR (L2.CX P w) outer P w H s Q E) s
theorem FnG.call {k : Nat} {f : Addr} {fd : FuncData} {ps : List Str} {sp : Sp} {pins : List (Addr × Obj)} {σ : L2.St} {H : Hp} {s : Shared} {Q : VK} {us : List Value} {vs : List V} (F : FnG X.prog X.w X.K X.mg X.base k f fd ps sp) (hr : Room k X.A) (hG : X.A.guards = some []) (hb : Binds X.K fd ps []) (tk : Takes X W)
    (I : Inv X pins σ H s) (r : Vals vs us) (h : sp vs H Q (WE W σ)) : wpAny (model X.prog X.w) X.A (call (.ref f) us) (EP X pins σ Q) X.xe s := by
  have hl := r.length.symm.trans (F.len vs H Q _ h)
  have b : BindsTo s fd ⟨us, []⟩ (ps.zip us) := by simpa only [List.append_nil] using hb s us I.kIn (by simpa only [List.append_nil] using hl)
  refine wpAny_call (codeAny_mono (F.run _ _ s H _ us vs Q _ hr hG I.env0 b r h) ?_)
  intro res s' q
  cases res with
  | error e => exact passAt tk σ pins H s e s' I q
  | ok fl => cases fl with
    | ret u => exact I.after q
    | next => exact q.elim
    | brk => exact q.elim
    | cont => exact q.elim
theorem pd_call {x : Str} {m : Mir} {n k : Nat} {f : Addr} {fd : FuncData} {ps : List Str} (F : FnG X.prog X.w X.K X.mg X.base k f fd ps (spD X.w X.K X.mg n m)) (hr : Room k X.A) (hG : X.A.guards = some []) (hm : X.mg x = some (.ref f)) (hk : PySem.W.keepIn X.K (.ref f) = true)
    (hb : Binds X.K fd ps []) (tk : Takes X W) (ha : PDs X W (e :: es) rs) (hl : (e :: es).length = n := by rfl) (hg : Gl X x := by rfl) (hdb : (x == ("__debug__" : Str)) = false := by decide)
    (he : starEach (e :: es) X.env = (false, eval e X.env) :: starEach es X.env := by rfl) (hpl : (backTo pos (starEach es X.env)).any (·.1) = false := by rfl) :
    PD X W (.Call (.Name x p) (e :: es) [] pos) (rCall m rs) := by
  obtain ⟨t, pt, st⟩ := ha.ex
  refine ⟨tCallS (spD X.w X.K X.mg n m) (WE W) t, ⟨fun pins s σ H Q I h => wpAny_Call_Name_kw (ld_glob I hg hm ?_ hdb)⟩, fun α F σ H δ S Q hr hs h => ?_⟩
  · exact PySem.W.callWith_K (h₀ := X.base) I.ok.mod.kin hk (thn (pt.run pos pins s σ H _ I h) fun us s1 ⟨vs, H1, I1, r, q⟩ => ⟨I1.kIn, F.call hr hG hb tk I1 r q⟩) he hpl
  · refine st α F σ H δ S _ hr hs (wp.bind h fun ds S1 e1 xs H1 β F1 r1 q1 v1 h1 => ?_)
    exact ⟨by rw [v1.length, ha.len _ _ _ _ e1]; exact hl, α ++ β, F1, S1, ds, r1, v1, h1⟩
end
end DL

set_option Elab.async false
set_option linter.all false
set_option maxRecDepth 100000
set_option maxHeartbeats 4000000
set_option autoImplicit false
/-! Data layer, fourth part: tests, targets, statements, loops, comprehensions, defs. -/
namespace DL
open PySem PySem.Spec PyProof.Rows L2

section
variable {X : Cx} {W : WX} {a b c e : Expr} {es rest : List Expr} {ra rb rc : RE} {ba bb : RB} {rs : RA} {pos p : Pos} {wd : World} {K : Fg} {mg : Str → Option Value} {α β : List Addr} {F H : Hp} {S : Sto}
/-! ### built-in things by their values -/
def OkC (X : Cx) (r : List V → Hp → VK → Prop) (g : Sto → List D → Option D) : Prop := ∀ α F H S (xs : List V) (ds : List D) (z : D) (Q : VK), Rel X.w X.K X.mg α F H S → DVs X.w X.K X.mg F α xs ds → g S ds = some z →
  (∀ v H' β F', Rel X.w X.K X.mg (α ++ β) F' H' S → Stp α F H β F' H' → DV X.w X.K X.mg F' (α ++ β) v z → Q v H') → r xs H Q
theorem SndA.app {t : TA} {g : Sto → List D → Option D} {k : List V → Hp → VK → Prop} (sa : SndA wd K mg W t rs)
    (hk : ∀ α F H S (xs : List V) (ds : List D) (z : D) (Q : VK), Rel wd K mg α F H S → DVs wd K mg F α xs ds → g S ds = some z → (∀ v H' β F', Rel wd K mg (α ++ β) F' H' S → Stp α F H β F' H' → DV wd K mg F' (α ++ β) v z → Q v H') → k xs H Q) :
    SndE wd K mg W (fun σ H Q => t σ H fun xs H1 => k xs H1 Q) (rAs g rs) := by
  intro α F σ H δ S Q hr hs h
  refine sa α F σ H δ S _ hr hs (wp.bind h fun d S1 _ x H1 β F1 r1 s1 v1 h1 => ?_)
  obtain ⟨z, e1, h3⟩ := wp.lift h1
  exact hk (α ++ β) F1 H1 S1 x d z Q r1 v1 e1 fun v H' ε F' r3 s3 v3 => h3 v H' ε F' r3 s3 v3
/-- a built-in by its name, a class by its name -/
structure BiG (X : Cx) (f : Value) (g : Sto → List D → Option D) : Prop where
  ex : ∃ r, CallR X f r ∧ OkC X r g
theorem pd_callB {x : Str} {id : String} {g : Sto → List D → Option D} (hc : BiG X (.builtin id) g) (hm : X.mg x = none) (ha : PDs X W (e :: es) rs) (hg : Gl X x := by rfl) (hv : bootBuiltins x = some (.builtin id) := by decide +kernel) (hn : x ≠ "__name__" := by decide) (hdb : (x == ("__debug__" : Str)) = false := by decide)
    (he : starEach (e :: es) X.env = (false, eval e X.env) :: starEach es X.env := by rfl) (hpl : (backTo pos (starEach es X.env)).any (·.1) = false := by rfl) : PD X W (.Call (.Name x p) (e :: es) [] pos) (rAs g rs) := by
  obtain ⟨r, h1, h2⟩ := hc.ex
  obtain ⟨t, pt, st⟩ := ha.ex
  exact ⟨_, pe_callB h1 hg hm hv pt hn hdb he hpl, st.app h2⟩
theorem pd_callT {x : Str} {T : String} {g : Sto → List D → Option D} (hc : BiG X (.type T) g) (hm : X.mg x = none) (ha : PDs X W (e :: es) rs) (hg : Gl X x := by rfl) (hv : bootBuiltins x = some (.type T) := by decide +kernel) (hn : x ≠ "__name__" := by decide) (hdb : (x == ("__debug__" : Str)) = false := by decide)
    (he : starEach (e :: es) X.env = (false, eval e X.env) :: starEach es X.env := by rfl) (hpl : (backTo pos (starEach es X.env)).any (·.1) = false := by rfl) : PD X W (.Call (.Name x p) (e :: es) [] pos) (rAs g rs) := by
  obtain ⟨r, h1, h2⟩ := hc.ex
  obtain ⟨t, pt, st⟩ := ha.ex
  exact ⟨_, pe_callTy h1 hg hm hv pt hn hdb he hpl, st.app h2⟩

/-! ### what is seen through the store -/
/-- an owned thing, by what it holds -/
theorem Rel.owned (hr : Rel wd K mg α F H S) {k : Nat} {a : Addr} (h : α[k]? = some a) : S[k]? = some (S.getD k .non) ∧ Own wd K mg F α H a (S.getD k .non) ∧ ((S.getD k .non).open = true → F a = none) := by
  have hk : k < S.length := by rw [← hr.len]; exact (List.getElem?_eq_some_iff.mp h).1
  have e2 : S[k]? = some (S.getD k .non) := by rw [List.getD_eq_getElem?_getD]; simp [hk]
  exact ⟨e2, hr.own k a _ h e2⟩
inductive Seen (wd : World) (K : Fg) (mg : Str → Option Value) (F : Hp) (α : List Addr) (H : Hp) : V → D → Prop
  | at {v : V} {d : D} : DV wd K mg F α v d → (∀ k, d ≠ .ptr k) → Seen wd K mg F α H v d
  | dead {v : V} {k : Nat} : Seen wd K mg F α H v (.ptr k)
  | lst {a : Addr} {xs : List V} {ds : List D} : H a = some (.lst xs) → DVs wd K mg F α xs ds → Seen wd K mg F α H (.ref a) (.lst ds)
  | dct {a : Addr} {ws : List (Key × V)} {kvs : List (D × D)} : Rd H a (.dK ws) → DKs (ws.map (·.1)) (kvs.map (·.1)) → DVs wd K mg F α (ws.map (·.2)) (kvs.map (·.2)) → Seen wd K mg F α H (.ref a) (.dct kvs)
  | dcn {a : Addr} {xs : List (NestedKey × Addr × V)} {kvs : List (D × D)} : Rd H a (dN wd a xs) → NVs wd K mg F α xs kvs → Seen wd K mg F α H (.ref a) (.dcn kvs)
theorem Rel.see (hr : Rel wd K mg α F H S) {v : V} {d : D} (h : DV wd K mg F α v d) : Seen wd K mg F α H v (deref S d) := by
  cases d with
  | ptr k =>
    cases h with
    | ptr h =>
      obtain ⟨_, o, _⟩ := hr.owned h
      unfold deref
      dsimp only
      generalize hd : S.getD k .non = d at o
      cases d with
      | lst ds => obtain ⟨xs, h1, h2⟩ := o; exact .lst h1 h2
      | dct kvs => obtain ⟨ws, h1, h2, h3⟩ := o; exact .dct (.inl h1) h2 h3
      | dcn kvs => obtain ⟨ws, h1, h2⟩ := o; exact .dcn (.inl h1) h2
      | lck u =>
        cases u with
        | dct kvs => obtain ⟨o, ws, h0, h1, h2, h3⟩ := o; exact .dct (.inr ⟨o, h1⟩) h2 h3
        | dcn kvs => obtain ⟨o, ws, h0, h1, h2⟩ := o; exact .dcn (.inr ⟨o, h1⟩) h2
        | _ => exact o.elim
      | non => exact .dead
      | _ => exact o.elim
  | _ => exact .at h (fun k e => by cases e)
theorem Rel.viewL (hr : Rel wd K mg α F H S) {v : V} {d : D} {ds : List D} (h : DV wd K mg F α v d) (e : deref S d = .lst ds) : ∃ a xs, v = .ref a ∧ SqL K H a xs ∧ DVs wd K mg F α xs ds := by
  have s := hr.see h
  rw [e] at s
  cases s with
  | «at» h _ => cases h with | lst q t => exact ⟨_, _, rfl, hr.sub.sqL q, t⟩
  | lst q t => exact ⟨_, _, rfl, .inl (Rd.of q), t⟩
theorem Rel.viewT (hr : Rel wd K mg α F H S) {v : V} {d : D} {ds : List D} (h : DV wd K mg F α v d) (e : deref S d = .tup ds) : ∃ a xs, v = .ref a ∧ SqT K H a xs ∧ DVs wd K mg F α xs ds := by
  have s := hr.see h
  rw [e] at s
  cases s with
  | «at» h _ => cases h with | tup q t => exact ⟨_, _, rfl, hr.sub.sqT q.1, t⟩
theorem Rel.viewX (hr : Rel wd K mg α F H S) {v : V} {d : D} {ds : List D} (h : DV wd K mg F α v d) (e : deref S d = .tux ds) : ∃ a xs, v = .ref a ∧ SqT K H a xs ∧ DVs wd K mg F α xs ds := by
  have s := hr.see h
  rw [e] at s
  cases s with
  | «at» h _ => cases h with | tux q t => exact ⟨_, _, rfl, hr.sub.sqT q, t⟩
theorem Rel.viewI (hr : Rel wd K mg α F H S) {v : V} {d : D} {i : Int} (h : DV wd K mg F α v d) (e : deref S d = .int i) : v = .int i := by
  have s := hr.see h
  rw [e] at s
  cases s with
  | «at» h _ => cases h; rfl
theorem Rel.viewS (hr : Rel wd K mg α F H S) {v : V} {d : D} {i : Str} (h : DV wd K mg F α v d) (e : deref S d = .str i) : v = .str i := by
  have s := hr.see h
  rw [e] at s
  cases s with
  | «at» h _ => cases h; rfl
theorem DVs.isEmpty {xs : List V} {ds : List D} (h : DVs wd K mg F α xs ds) : ds.isEmpty = xs.isEmpty := by cases h <;> rfl
theorem Rel.truV (hr : Rel wd K mg α F H S) {v : V} {d : D} {k : Bool} (h : DV wd K mg F α v d) (e : truth S d = some k) : TruV K v H k := by
  have s := hr.see h
  unfold truth at e
  generalize deref S d = dd at e s
  cases s with
  | «at» h hp =>
    cases h with
    | non => cases e; rfl
    | bl b => cases e; rfl
    | int i => cases e; rfl
    | str x =>
      dsimp only at e
      split at e
      · rename_i hl; cases e; exact ⟨hl, rfl⟩
      · cases e
    | tup q t => cases e; exact .inr (.inl ⟨_, hr.sub.sqT q.1, by rw [t.isEmpty]⟩)
    | tux q t => cases e
    | lst q t => cases e; exact .inl ⟨_, hr.sub.sqL q, by rw [t.isEmpty]⟩
    | ptr _ => exact absurd rfl (hp _)
    | fn _ => cases e
    | ty _ => cases e
  | dead => cases e
  | lst q t => cases e; exact .inl ⟨_, SqL.of q, by rw [t.isEmpty]⟩
  | dct h k t => cases e
  | dcn h t => cases e

/-! ### tests -/
theorem pb_tru (ha : PD X W a ra) (he : ∀ whole, isTrue a X.env whole = (do let v ← whole; standAt a.pos; holding [v] (truthy v)) := by intro _; rfl) : PB X W a (bTru ra) := by
  obtain ⟨ta, pa, sa⟩ := ha.ex
  refine ⟨_, pt_truth pa he, fun α F σ H δ S Q hr hs h => ?_⟩
  refine sa α F σ H δ S _ hr hs (wp.bind h fun d S1 _ x H1 β F1 r1 s1 v1 h1 => ?_)
  obtain ⟨k, e1, h2⟩ := wp.lift h1
  exact ⟨k, r1.truV v1 e1, h2.now r1 rfl⟩
theorem SndB.and {t u : TT} (s1 : SndB wd K mg W t ba) (s2 : SndB wd K mg W u bb) : SndB wd K mg W (tAnd t u) (bAnd ba bb) := by
  intro α F σ H δ S Q hr hs h
  refine s1 α F σ H δ S _ hr hs (wp.bind h fun d S1 _ x H1 β F1 r1 q1 v1 h1 => ?_)
  have e : x = d := v1
  subst e
  cases x with
  | true => exact s2 (α ++ β) F1 σ H1 δ S1 Q r1 (hs.mono q1.sub) h1
  | false => exact h1.now r1 rfl
theorem SndB.or {t u : TT} (s1 : SndB wd K mg W t ba) (s2 : SndB wd K mg W u bb) : SndB wd K mg W (tOr t u) (bOr ba bb) := by
  intro α F σ H δ S Q hr hs h
  refine s1 α F σ H δ S _ hr hs (wp.bind h fun d S1 _ x H1 β F1 r1 q1 v1 h1 => ?_)
  have e : x = d := v1
  subst e
  cases x with
  | false => exact s2 (α ++ β) F1 σ H1 δ S1 Q r1 (hs.mono q1.sub) h1
  | true => exact h1.now r1 rfl
theorem pw_and1D (ha : PB X W a ba) : PBw X W (.BoolOp .And [a] pos) ba := let ⟨t, h, s⟩ := ha.ex; ⟨t, pw_and1 h, s⟩
theorem pw_or1D (ha : PB X W a ba) : PBw X W (.BoolOp .Or [a] pos) ba := let ⟨t, h, s⟩ := ha.ex; ⟨t, pw_or1 h, s⟩
theorem pw_andD (ha : PB X W a ba) (hb : PBw X W (.BoolOp .And (b :: rest) pos) bb) : PBw X W (.BoolOp .And (a :: b :: rest) pos) (bAnd ba bb) := by
  obtain ⟨t, h1, s1⟩ := ha.ex
  obtain ⟨u, h2, s2⟩ := hb.ex
  exact ⟨_, pw_and h1 h2, s1.and s2⟩
theorem pw_orD (ha : PB X W a ba) (hb : PBw X W (.BoolOp .Or (b :: rest) pos) bb) : PBw X W (.BoolOp .Or (a :: b :: rest) pos) (bOr ba bb) := by
  obtain ⟨t, h1, s1⟩ := ha.ex
  obtain ⟨u, h2, s2⟩ := hb.ex
  exact ⟨_, pw_or h1 h2, s1.or s2⟩
theorem pb_w (h : PBw X W a ba) : PB X W a ba := let ⟨t, p, s⟩ := h.ex; ⟨t, p.pt, s⟩
theorem pb_not (ha : PB X W a ba) : PB X W (.UnaryOp .Not a pos) (bNot ba) := by
  obtain ⟨t, h, s⟩ := ha.ex
  refine ⟨_, pt_not h, fun α F σ H δ S Q hr hs h => ?_⟩
  refine s α F σ H δ S _ hr hs (wp.bind h fun d S1 _ x H1 β F1 r1 q1 v1 h1 => ?_)
  have e : x = d := v1
  subst e
  exact h1.now r1 rfl
/-- a < b <= c -/
def rChain (g g' : Sto → D → D → Option D) (ra rb rc : RE) : RE := fun δ S => (ra δ S).bind fun x S1 => (rb δ S1).bind fun y S2 => (Res.lift (g S2 x y) S2).bind fun z S3 => match z with
  | .bl true => (rc δ S3).bind fun u S4 => .lift (g' S4 y u) S4
  | .bl false => .ok (.bl false) S3
  | _ => .stuck
theorem pd_chain2 {op op' : CmpOp} {g g' : Sto → D → D → Option D} (ho : OpG X (compareOp op) g) (ho' : OpG X (compareOp op') g') (ha : PD X W a ra) (hb : PD X W b rb) (hc : PD X W c rc) (hm : lastMarks [op, op'] [b, c] = false := by with_unfolding_all rfl) :
    PD X W (.Compare a [op, op'] [b, c] pos) (rChain g g' ra rb rc) ∧ PB X W (.Compare a [op, op'] [b, c] pos) (bVal (rChain g g' ra rb rc)) := by
  obtain ⟨r, h1, h2⟩ := ho.ex
  obtain ⟨r', h1', h2'⟩ := ho'.ex
  obtain ⟨ta, pa, sa⟩ := ha.ex
  obtain ⟨tb, pb, sb⟩ := hb.ex
  obtain ⟨tc, pc, sc⟩ := hc.ex
  suffices q : SndE X.w X.K X.mg W (tChain r r' ta tb tc) (rChain g g' ra rb rc) from ⟨⟨_, pe_chain h1 h1' pa pb pc hm, q⟩, ⟨_, pt_chain h1 h1' pa pb pc hm, q.val⟩⟩
  intro α F σ H δ S Q hr hs h
  refine sa α F σ H δ S _ hr hs (wp.bind h fun d S1 _ x H1 β F1 r1 s1 v1 q1 => ?_)
  refine sb (α ++ β) F1 σ H1 δ S1 _ r1 (hs.mono s1.sub) (wp.bind q1 fun e S2 _ y H2 γ F2 r2 s2 v2 q2 => ?_)
  cases eg : g S2 d e with
  | none => rw [eg] at q2; exact q2.elim
  | some z =>
    rw [eg] at q2
    refine h2 (α ++ β ++ γ) F2 H2 S2 x y d e z _ r2 (v1.mono s2.sub) v2 eg fun v H3 ε F3 r3 s3 v3 => ?_
    have q3 := wp.step s3 q2
    cases z with
    | bl k =>
      cases v3
      refine ⟨k, rfl, ?_⟩
      cases k with
      | false => exact q3.now r3 (.bl false)
      | true =>
        refine sc (α ++ β ++ γ ++ ε) F3 σ H3 δ S2 _ r3 (((hs.mono s1.sub).mono s2.sub).mono s3.sub) (wp.bind q3 fun u S4 _ w H4 ζ F4 r4 s4 v4 q4 => ?_)
        obtain ⟨z', e', q5⟩ := wp.lift q4
        exact h2' _ F4 H4 S4 y w e u z' Q r4 ((v2.mono s3.sub).mono s4.sub) v4 e' fun v H' ε F' r3 s3 v3 => q5 v H' ε F' r3 s3 v3
    | _ => exact q3.elim
/-! ### and, or, not, if as values -/
theorem pd_if (hc : PB X W c ba) (ha : PD X W a ra) (hb : PD X W b rb) : PD X W (.IfExp c a b pos) (rIf ba ra rb) := by
  obtain ⟨tc, pc, sc⟩ := hc.ex
  obtain ⟨ta, pa, sa⟩ := ha.ex
  obtain ⟨tb, pb, sb⟩ := hb.ex
  refine ⟨_, pe_ifExp pc pa pb, fun α F σ H δ S Q hr hs h => ?_⟩
  refine sc α F σ H δ S _ hr hs (wp.bind h fun d S1 _ x H1 β F1 r1 q1 v1 h1 => ?_)
  have e : x = d := v1
  subst e
  cases x with
  | true => exact sa (α ++ β) F1 σ H1 δ S1 Q r1 (hs.mono q1.sub) h1
  | false => exact sb (α ++ β) F1 σ H1 δ S1 Q r1 (hs.mono q1.sub) h1
theorem pd_one {op : BoolOp} (ha : PD X W a ra) : PD X W (.BoolOp op [a] pos) ra := let ⟨t, h, s⟩ := ha.ex; ⟨t, pe_one h, s⟩
theorem pd_or (ha : PD X W a ra) (hb : PD X W (.BoolOp .Or (b :: rest) pos) rb) : PD X W (.BoolOp .Or (a :: b :: rest) pos) (rOr ra rb) := by
  obtain ⟨ta, pa, sa⟩ := ha.ex
  obtain ⟨tb, pb, sb⟩ := hb.ex
  refine ⟨_, pe_orT pa pb, fun α F σ H δ S Q hr hs h => ?_⟩
  refine sa α F σ H δ S _ hr hs (wp.bind h fun d S1 _ x H1 β F1 r1 q1 v1 h1 => ?_)
  cases e : truth S1 d with
  | none => rw [e] at h1; exact h1.elim
  | some k =>
    rw [e] at h1
    refine ⟨k, r1.truV v1 e, ?_⟩
    cases k with
    | true => exact h1.now r1 v1
    | false => exact sb (α ++ β) F1 σ H1 δ S1 Q r1 (hs.mono q1.sub) h1
theorem pd_and (ha : PD X W a ra) (hb : PD X W (.BoolOp .And (b :: rest) pos) rb) : PD X W (.BoolOp .And (a :: b :: rest) pos) (rAnd ra rb) := by
  obtain ⟨ta, pa, sa⟩ := ha.ex
  obtain ⟨tb, pb, sb⟩ := hb.ex
  refine ⟨_, pe_andT pa pb, fun α F σ H δ S Q hr hs h => ?_⟩
  refine sa α F σ H δ S _ hr hs (wp.bind h fun d S1 _ x H1 β F1 r1 q1 v1 h1 => ?_)
  cases e : truth S1 d with
  | none => rw [e] at h1; exact h1.elim
  | some k =>
    rw [e] at h1
    refine ⟨k, r1.truV v1 e, ?_⟩
    cases k with
    | false => exact h1.now r1 v1
    | true => exact sb (α ++ β) F1 σ H1 δ S1 Q r1 (hs.mono q1.sub) h1
theorem pd_not (ha : PD X W a ra) : PD X W (.UnaryOp .Not a pos) (rNot ra) := by
  obtain ⟨ta, pa, sa⟩ := ha.ex
  refine ⟨_, pe_notT pa, fun α F σ H δ S Q hr hs h => ?_⟩
  refine sa α F σ H δ S _ hr hs (wp.bind h fun d S1 _ x H1 β F1 r1 q1 v1 h1 => ?_)
  cases e : truth S1 d with
  | none => rw [e] at h1; exact h1.elim
  | some k =>
    rw [e] at h1
    exact ⟨k, r1.truV v1 e, h1.now r1 (.bl _)⟩
end
end DL

set_option Elab.async false
set_option linter.all false
set_option maxRecDepth 100000
set_option maxHeartbeats 4000000
set_option autoImplicit false
/-! Data layer, fifth part: targets, statements, loops, comprehensions, defs. -/
namespace DL
open PySem PySem.Spec PyProof.Rows L2

def relS (wd : World) (K : Fg) (mg : Str → Option Value) : RelT L2.St Sl := fun F α σ δ => Slots wd K mg F α σ δ
def SndG (wd : World) (K : Fg) (mg : Str → Option Value) (W : WX) (t : TG) (g : RG) : Prop := ∀ α F σ H δ S v d (Q : L2.St → Hp → Prop), Rel wd K mg α F H S → Slots wd K mg F α σ δ → DV wd K mg F α v d → wp wd K mg α F H (relS wd K mg) (g d δ S) Q (fun c d H' => W c d σ H') → t v σ H Q
def SndGs (wd : World) (K : Fg) (mg : Str → Option Value) (W : WX) (t : TGs) (g : List D → Sl → Sto → Res Sl) : Prop := ∀ α F σ H δ S v d (Q : L2.St → Hp → Prop), Rel wd K mg α F H S → Slots wd K mg F α σ δ → DVs wd K mg F α v d → wp wd K mg α F H (relS wd K mg) (g d δ S) Q (fun c d H' => W c d σ H') → t v σ H Q
structure PGd (X : Cx) (W : WX) (tg : Expr) (g : RG) : Prop where
  ex : ∃ t, PG X tg t ∧ SndG X.w X.K X.mg W t g
/-- .. that raises nothing -/
structure PGn (X : Cx) (W : WX) (tg : Expr) (g : RG) : Prop where
  pg : PGd X W tg g
  ne : ∀ d δ S c fs S', g d δ S ≠ .err c fs S'
structure PGds (X : Cx) (W : WX) (tg : List Expr) (g : List D → Sl → Sto → Res Sl) : Prop where
  ex : ∃ t, PGs X tg t ∧ SndGs X.w X.K X.mg W t g
  ne : ∀ d δ S c fs S', g d δ S ≠ .err c fs S'
  len : ∀ ds δ S δ' S', g ds δ S = .ok δ' S' → ds.length = tg.length
def wpS (wd : World) (K : Fg) (mg : Str → Option Value) (α : List Addr) (F H : Hp) (o : Out) (E : Ends) (W : WX) : Prop := match o with
  | .nx δ S => ∀ σ' H' β F', Rel wd K mg (α ++ β) F' H' S → Stp α F H β F' H' → Slots wd K mg F' (α ++ β) σ' δ → E.nx σ' H'
  | .rt d S => ∀ v H' β F', Rel wd K mg (α ++ β) F' H' S → Stp α F H β F' H' → DV wd K mg F' (α ++ β) v d → E.rt v H'
  | .bk δ S => ∀ σ' H' β F', Rel wd K mg (α ++ β) F' H' S → Stp α F H β F' H' → Slots wd K mg F' (α ++ β) σ' δ → E.bk σ' H'
  | .ct δ S => ∀ σ' H' β F', Rel wd K mg (α ++ β) F' H' S → Stp α F H β F' H' → Slots wd K mg F' (α ++ β) σ' δ → E.ct σ' H'
  | .err c fs δ S => ∀ cls dd σ' H' β F', Rel wd K mg (α ++ β) F' H' S → Stp α F H β F' H' → Slots wd K mg F' (α ++ β) σ' δ → ErrAt wd K mg F' (α ++ β) c fs cls dd H' → W cls dd σ' H'
  | .stuck => False
def SndS (wd : World) (K : Fg) (mg : Str → Option Value) (W : WX) (t : TS) (r : RS) : Prop := ∀ α F σ H δ S (E : Ends), Rel wd K mg α F H S → Slots wd K mg F α σ δ → wpS wd K mg α F H (r δ S) E W → t E σ H
structure PSd (X : Cx) (W : WX) (st : Stmt) (r : RS) : Prop where
  ex : ∃ t, PS X st t ∧ SndS X.w X.K X.mg W t r
structure PSds (X : Cx) (W : WX) (st : List Stmt) (r : RS) : Prop where
  ex : ∃ t, PSs X st t ∧ SndS X.w X.K X.mg W t r

section
variable {X : Cx} {W : WX} {a b c e : Expr} {es rest : List Expr} {ra rb rc : RE} {ba bb : RB} {rs : RA} {pos p : Pos} {wd : World} {K : Fg} {mg : Str → Option Value} {α β : List Addr} {F F1 H H1 : Hp} {S : Sto}
theorem wpS.step {o : Out} {E : Ends} (st : Stp α F H β F1 H1) (h : wpS wd K mg α F H o E W) : wpS wd K mg (α ++ β) F1 H1 o E W := by
  cases o with
  | nx δ S => intro σ' H' γ F' hr hs hv; rw [List.append_assoc] at hr hv; exact h σ' H' (β ++ γ) F' hr (st.trans hs) hv
  | rt d S => intro σ' H' γ F' hr hs hv; rw [List.append_assoc] at hr hv; exact h σ' H' (β ++ γ) F' hr (st.trans hs) hv
  | bk δ S => intro σ' H' γ F' hr hs hv; rw [List.append_assoc] at hr hv; exact h σ' H' (β ++ γ) F' hr (st.trans hs) hv
  | ct δ S => intro σ' H' γ F' hr hs hv; rw [List.append_assoc] at hr hv; exact h σ' H' (β ++ γ) F' hr (st.trans hs) hv
  | err c fs δ S => intro cls dd σ' H' γ F' hr hs hv q; rw [List.append_assoc] at hr hv q; exact h cls dd σ' H' (β ++ γ) F' hr (st.trans hs) hv q
  | stuck => exact h
theorem wpS.out {A B : Type} {rel : RelT B A} {r : Res A} {δ : Sl} {f : A → Sto → Out} {E : Ends} {Q : B → Hp → Prop} {σ : L2.St} (h : wpS wd K mg α F H (r.out δ f) E W) (hs : Slots wd K mg F α σ δ)
    (k : ∀ a S1, r = .ok a S1 → ∀ x H1 β F1, Rel wd K mg (α ++ β) F1 H1 S1 → Stp α F H β F1 H1 → rel F1 (α ++ β) x a → wpS wd K mg (α ++ β) F1 H1 (f a S1) E W → Q x H1) : wp wd K mg α F H rel r Q (fun c d H' => W c d σ H') := by
  cases r with
  | ok a S' => exact fun b H' β F' hr st hv => k a S' rfl b H' β F' hr st hv (wpS.step st h)
  | err c fs S' => exact fun cls dd H' β F' hr st q => h cls dd σ H' β F' hr st (hs.mono st.sub) q
  | stuck => exact h
theorem wpS.nx {δ : Sl} {E : Ends} {σ : L2.St} (h : wpS wd K mg α F H (.nx δ S) E W) (hr : Rel wd K mg α F H S) (hs : Slots wd K mg F α σ δ) : E.nx σ H := by
  have e : α ++ [] = α := List.append_nil α
  exact h σ H [] F (by rw [e]; exact hr) Stp.refl (by rw [e]; exact hs)
theorem wpS.rt {d : D} {E : Ends} {v : V} (h : wpS wd K mg α F H (.rt d S) E W) (hr : Rel wd K mg α F H S) (hv : DV wd K mg F α v d) : E.rt v H := by
  have e : α ++ [] = α := List.append_nil α
  exact h v H [] F (by rw [e]; exact hr) Stp.refl (by rw [e]; exact hv)
theorem wpS.bk {δ : Sl} {E : Ends} {σ : L2.St} (h : wpS wd K mg α F H (.bk δ S) E W) (hr : Rel wd K mg α F H S) (hs : Slots wd K mg F α σ δ) : E.bk σ H := by
  have e : α ++ [] = α := List.append_nil α
  exact h σ H [] F (by rw [e]; exact hr) Stp.refl (by rw [e]; exact hs)
theorem wpS.ct {δ : Sl} {E : Ends} {σ : L2.St} (h : wpS wd K mg α F H (.ct δ S) E W) (hr : Rel wd K mg α F H S) (hs : Slots wd K mg F α σ δ) : E.ct σ H := by
  have e : α ++ [] = α := List.append_nil α
  exact h σ H [] F (by rw [e]; exact hr) Stp.refl (by rw [e]; exact hs)

/-! ### targets -/
theorem pgd_name (i : Nat) {x : Str} (hN : X.N.Nodup) (hi : X.N[i]? = some x := by rfl) (hx : Loc X.env.scope x := by first | exact Or.inl rfl | exact Or.inr rfl) (hf : X.fn x = true ∨ X.env.scope.names.lookup x = some .local := by first | exact .inl rfl | exact .inr rfl | assumption) : PGn X W (.Name x pos) (gName i) := by
  refine ⟨⟨_, pg_name hN hi hx hf, fun α F σ H δ S v d Q hr hs hv h => ?_⟩, fun d δ S c fs S' h => by unfold gName at h; split at h <;> cases h⟩
  unfold gName at h
  split at h
  · exact h.now hr (hs.set hv)
  · exact h.elim
theorem pgds_nil : PGds X W [] gNil := by
  refine ⟨⟨_, pgs_nil, fun α F σ H δ S v d Q hr hs hv h => ?_⟩, fun d δ S c fs S' h => ?_, fun ds δ S δ' S' h => ?_⟩
  · cases hv with
    | nil => exact ⟨rfl, h.now hr hs⟩
    | cons _ _ => exact h.elim
  · cases d <;> cases h
  · cases ds with
    | nil => rfl
    | cons _ _ => cases h
theorem pgds_cons {g : RG} {u : List D → Sl → Sto → Res Sl} (h1 : PGn X W e g) (h2 : PGds X W es u) (hsy : (assignEach (e :: es) X.env).map (·.2) = assign e X.env :: (assignEach es X.env).map (·.2) := by rfl) : PGds X W (e :: es) (gCons g u) := by
  obtain ⟨t, p1, s1⟩ := h1.pg.ex
  obtain ⟨t', p2, s2⟩ := h2.ex
  refine ⟨⟨_, pgs_cons p1 p2 hsy, fun α F σ H δ S v d Q hr hs hv h => ?_⟩, fun d δ S c fs S' h => ?_, fun ds δ S δ' S' h => ?_⟩
  · cases hv with
    | nil => exact h.elim
    | cons hv ht =>
      rename_i v d vs ds
      refine ⟨v, vs, rfl, s1 α F σ H δ S v d _ hr hs hv (wp.bind h fun δ1 S1 _ σ1 H1 β F1 r1 q1 hs1 h1 => ?_)⟩
      refine s2 (α ++ β) F1 σ1 H1 δ1 S1 vs ds Q r1 hs1 (ht.mono q1.sub) ?_
      cases q : u ds δ1 S1 with
      | ok a S' => rw [q] at h1; exact h1
      | err c fs S' => exact absurd q (h2.ne _ _ _ _ _ _)
      | stuck => rw [q] at h1; exact h1
  · cases d with
    | nil => cases h
    | cons d r =>
      have h' : (g d δ S).bind (fun δ1 S1 => u r δ1 S1) = .err c fs S' := h
      cases q : g d δ S with
      | ok a S1 => rw [q] at h'; exact h2.ne _ _ _ _ _ _ h'
      | err c fs S1 => exact h1.ne _ _ _ _ _ _ q
      | stuck => rw [q] at h'; cases h'
  · cases ds with
    | nil => cases h
    | cons d r =>
      have h' : (g d δ S).bind (fun δ1 S1 => u r δ1 S1) = .ok δ' S' := h
      cases q : g d δ S with
      | ok a S1 => rw [q] at h'; rw [List.length_cons, List.length_cons, h2.len _ _ _ _ _ h']
      | err c fs S1 => rw [q] at h'; cases h'
      | stuck => rw [q] at h'; cases h'
theorem pgn_tup {k : Nat} {u : List D → Sl → Sto → Res Sl} (hc : X.calm = true) (h : PGds X W es u) (hn : (assignEach es X.env).length = es.length := by rfl) (hst : (assignEach es X.env).findIdx? (·.1) = none := by rfl) : PGn X W (.Tuple es k pos) (gTup u) := by
  obtain ⟨t, p1, s1⟩ := h.ex
  refine ⟨⟨_, pg_tup hc p1 hn hst, fun α F σ H δ S v d Q hr hs hv h0 => ?_⟩, fun d δ S c fs S' h0 => ?_⟩
  · unfold gTup at h0
    cases q : deref S d with
    | tup ds =>
      rw [q] at h0
      dsimp only at h0
      obtain ⟨a, xs, e1, e2, e3⟩ := hr.viewT hv q
      have len : ds.length = es.length := by
        cases q2 : u ds δ S with
        | ok δ' S' => exact h.len _ _ _ _ _ q2
        | err c fs S' => exact absurd q2 (h.ne _ _ _ _ _ _)
        | stuck => rw [q2] at h0; exact h0.elim
      exact ⟨a, xs, e1, e2, by rw [e3.length]; exact len, s1 α F σ H δ S xs ds Q hr hs e3 h0⟩
    | tux ds =>
      rw [q] at h0
      dsimp only at h0
      obtain ⟨a, xs, e1, e2, e3⟩ := hr.viewX hv q
      have len : ds.length = es.length := by
        cases q2 : u ds δ S with
        | ok δ' S' => exact h.len _ _ _ _ _ q2
        | err c fs S' => exact absurd q2 (h.ne _ _ _ _ _ _)
        | stuck => rw [q2] at h0; exact h0.elim
      exact ⟨a, xs, e1, e2, by rw [e3.length]; exact len, s1 α F σ H δ S xs ds Q hr hs e3 h0⟩
    | _ => rw [q] at h0; exact h0.elim
  · unfold gTup at h0
    cases q : deref S d with
    | tup ds => rw [q] at h0; exact h.ne _ _ _ _ _ _ h0
    | tux ds => rw [q] at h0; exact h.ne _ _ _ _ _ _ h0
    | _ => rw [q] at h0; cases h0

/-! ### statements -/
theorem psds_nil : PSds X W [] sNext := ⟨_, pss_nil, fun α F σ H δ S E hr hs h => h.nx hr hs⟩
theorem psds_cons {st : Stmt} {sts : List Stmt} {r u : RS} (h1 : PSd X W st r) (h2 : PSds X W sts u) : PSds X W (st :: sts) (sSeq r u) := by
  obtain ⟨t, p1, s1⟩ := h1.ex
  obtain ⟨t', p2, s2⟩ := h2.ex
  refine ⟨_, pss_cons p1 p2, fun α F σ H δ S E hr hs h => ?_⟩
  refine s1 α F σ H δ S _ hr hs ?_
  unfold sSeq at h
  cases q : r δ S with
  | nx δ1 S1 =>
    rw [q] at h
    exact fun σ' H' β F' r1 q1 hs1 => s2 (α ++ β) F' σ' H' δ1 S1 E r1 hs1 (wpS.step q1 h)
  | rt d S1 => rw [q] at h; exact h
  | bk δ S1 => rw [q] at h; exact h
  | ct δ S1 => rw [q] at h; exact h
  | err c fs δ S1 => rw [q] at h; exact h
  | stuck => rw [q] at h; exact h
theorem psds_one {st : Stmt} {r : RS} (h1 : PSd X W st r) : PSds X W [st] r := let ⟨t, p, s⟩ := h1.ex; ⟨t, pss_one p, s⟩
theorem psd_pass : PSd X W (.Pass pos) sNext := ⟨_, ps_pass, fun α F σ H δ S E hr hs h => h.nx hr hs⟩
theorem psd_break : PSd X W (.Break pos) sBreak := ⟨_, ps_break, fun α F σ H δ S E hr hs h => h.bk hr hs⟩
theorem psd_cont : PSd X W (.Continue pos) sCont := ⟨_, ps_continue, fun α F σ H δ S E hr hs h => h.ct hr hs⟩
theorem psd_doc {x : Str} {j : Nat} {pos' : Pos} : PSd X W (.Expr (.Constant (.str x) j pos) pos') sNext := ⟨_, ps_doc, fun α F σ H δ S E hr hs h => h.nx hr hs⟩
theorem psd_never {st : Stmt} : PSd X W st sNever := ⟨_, ps_never, fun α F σ H δ S E hr hs h => h⟩
theorem psd_expr (ha : PD X W e ra) (hsw : swapsWith e none pos.line X.env = pure false := by rfl) : PSd X W (.Expr e pos) (sExpr ra) := by
  obtain ⟨t, p1, s1⟩ := ha.ex
  refine ⟨_, ps_expr p1 hsw, fun α F σ H δ S E hr hs h => ?_⟩
  exact s1 α F σ H δ S _ hr hs (wpS.out h hs fun d S1 _ x H1 β F1 r1 q1 v1 h1 => h1.nx r1 (hs.mono q1.sub))
theorem psd_ret (ha : PD X W e ra) : PSd X W (.Return (some e) pos) (sRet ra) := by
  obtain ⟨t, p1, s1⟩ := ha.ex
  refine ⟨_, ps_ret p1, fun α F σ H δ S E hr hs h => ?_⟩
  exact s1 α F σ H δ S _ hr hs (wpS.out h hs fun d S1 _ x H1 β F1 r1 q1 v1 h1 => h1.rt r1 v1)
theorem psd_retN : PSd X W (.Return none pos) (sRet (rC .non)) := by
  refine ⟨_, ps_retN, fun α F σ H δ S E hr hs h => ?_⟩
  have h' : wpS X.w X.K X.mg α F H (.rt .non S) E W := h
  exact h'.rt hr .non
theorem psd_if {p q : List Stmt} {t u : RS} (hc : PB X W c ba) (ha : PSds X W p t) (hb : PSds X W q u) : PSd X W (.If c p q pos) (sIf ba t u) := by
  obtain ⟨tc, p0, s0⟩ := hc.ex
  obtain ⟨t', p1, s1⟩ := ha.ex
  obtain ⟨u', p2, s2⟩ := hb.ex
  refine ⟨_, ps_if p0 p1 p2, fun α F σ H δ S E hr hs h => ?_⟩
  refine s0 α F σ H δ S _ hr hs (wpS.out h hs fun d S1 _ x H1 β F1 r1 q1 v1 h1 => ?_)
  have e : x = d := v1
  subst e
  cases x with
  | true => exact s1 (α ++ β) F1 σ H1 δ S1 E r1 (hs.mono q1.sub) h1
  | false => exact s2 (α ++ β) F1 σ H1 δ S1 E r1 (hs.mono q1.sub) h1
theorem psd_asg {tg : Expr} {g : RG} (he : PD X W e ra) (hg : PGd X W tg g) (hsw : swapsWithSole [tg] e pos.line X.env = pure false := by rfl) (hw : swappedStores [tg] e X.env = pure none := by rfl) (h1 : (assignEach [tg] X.env).map (·.2) = [assign tg X.env] := by rfl) : PSd X W (.Assign [tg] e pos) (sAsg ra g) := by
  obtain ⟨t, p1, s1⟩ := he.ex
  obtain ⟨tg', p2, s2⟩ := hg.ex
  refine ⟨_, ps_asg p1 p2 hsw hw h1, fun α F σ H δ S E hr hs h => ?_⟩
  refine s1 α F σ H δ S _ hr hs (wpS.out h hs fun d S1 _ x H1 β F1 r1 q1 v1 h1 => ?_)
  refine s2 (α ++ β) F1 σ H1 δ S1 x d _ r1 (hs.mono q1.sub) v1 (wpS.out h1 (hs.mono q1.sub) fun δ1 S2 _ σ1 H2 γ F2 r2 q2 v2 h2 => ?_)
  exact h2.nx r2 v2

/-! ### loops -/
/-- J walks ds, whatever else is laid -/
structure ItOk (wd : World) (K : Fg) (mg : Str → Option Value) (F : Hp) (α : List Addr) (J : It) (ds : List D) : Prop where
  go : ∀ (F' H' : Hp) (i : Nat), Sub F F' → Sub F' H' → i < ds.length → J.go i H'
  stop : ∀ (F' H' : Hp), Sub F F' → Sub F' H' → J.stop ds.length H'
  yld : ∀ (F' H' H2 : Hp) (i : Nat) (x : V) (d : D), Sub F F' → Sub F' H' → ds[i]? = some d → J.yld i H' x H2 → (H2 = H' ∧ DV wd K mg F' α x d) ∨ ∃ T o, H' T = none ∧ H2 = upd H' T o ∧ DV wd K mg (upd F' T o) α x d
theorem ItOk.mono {J : It} {ds : List D} (h : ItOk wd K mg F α J ds) (s : Sub F F1) : ItOk wd K mg F1 (α ++ β) J ds where
  go := fun F' H' i a b => h.go F' H' i (s.trans a) b
  stop := fun F' H' a b => h.stop F' H' (s.trans a) b
  yld := fun F' H' H2 i x d a b c q => (h.yld F' H' H2 i x d (s.trans a) b c q).imp (fun ⟨z, y⟩ => ⟨z, y.mono (Sub.refl _)⟩) fun ⟨T, o, z1, z2, y⟩ => ⟨T, o, z1, z2, y.mono (Sub.refl _)⟩
def relI (wd : World) (K : Fg) (mg : Str → Option Value) : RelT It (List D) := fun F α J ds => ItOk wd K mg F α J ds
def SndI (wd : World) (K : Fg) (mg : Str → Option Value) (W : WX) (t : TI) (r : RA) : Prop := ∀ α F σ H δ S (Q : It → Hp → Prop), Rel wd K mg α F H S → Slots wd K mg F α σ δ → wp wd K mg α F H (relI wd K mg) (r δ S) Q (fun c d H' => W c d σ H') → t σ H Q
structure PId (X : Cx) (W : WX) (tg iter : Expr) (r : RA) : Prop where
  ex : ∃ t, PI X tg iter t ∧ SndI X.w X.K X.mg W t r
/-- the item that came -/
theorem ItOk.came {J : It} {ds : List D} {H2 : Hp} {i : Nat} {x : V} {d : D} (h : ItOk wd K mg F α J ds) (hr : Rel wd K mg α F H S) (hd : ds[i]? = some d) (q : J.yld i H x H2) :
    ∃ F2, Rel wd K mg (α ++ []) F2 H2 S ∧ Stp α F H [] F2 H2 ∧ DV wd K mg F2 (α ++ []) x d := by
  rcases h.yld F H H2 i x d (Sub.refl F) hr.sub hd q with ⟨e, v⟩ | ⟨T, o, e1, e2, v⟩
  · subst e
    refine ⟨F, ?_, Stp.refl, v.mono (Sub.refl F)⟩
    rw [List.append_nil]; exact hr
  · subst e2
    obtain ⟨a1, a2⟩ := hr.newF (o := o) e1
    exact ⟨_, a1, a2, v.mono (Sub.refl _)⟩
theorem drop_cons {A : Type} {l : List A} {i : Nat} {d : A} (h : l[i]? = some d) : l.drop i = d :: l.drop (i + 1) := by
  obtain ⟨hi, e⟩ := List.getElem?_eq_some_iff.mp h
  rw [List.drop_eq_getElem_cons hi, e]
theorem psd_for {tg iter : Expr} {body : List Stmt} {ri : RA} {g : RG} {r : RS} (hp : PassesOwn (model X.prog X.w) X.A X.env X.xe) (hc : X.calm = true) (hi : PId X W tg iter ri) (hg : PGd X W tg g) (hb : PSds X W body r) (hsx : ∀ x, foldedSetIterable iter X.env x = pure x := by intro _; rfl) : PSd X W (.For tg iter body [] pos) (sFor ri g r) := by
  obtain ⟨ti, p1, s1⟩ := hi.ex
  obtain ⟨tg', p2, s2⟩ := hg.ex
  obtain ⟨tb, p3, s3⟩ := hb.ex
  refine ⟨_, ps_for hp hc p1 p2 p3 hsx, fun α F σ H δ S E hr hs h => ?_⟩
  refine s1 α F σ H δ S _ hr hs (wpS.out h hs fun ds S1 _ J H1 β F1 r1 q1 v1 h1 => ?_)
  have v1 : ItOk X.w X.K X.mg F1 (α ++ β) J ds := v1
  refine ⟨fun i m σ' H' => i + m = ds.length ∧ ∃ γ F' δ' S', Rel X.w X.K X.mg (α ++ β ++ γ) F' H' S' ∧ Sub F1 F' ∧ Slots X.w X.K X.mg F' (α ++ β ++ γ) σ' δ' ∧ wpS X.w X.K X.mg (α ++ β ++ γ) F' H' (forL g r (ds.drop i) δ' S') E W, ⟨ds.length, by omega, [], F1, δ, S1, ?_⟩, fun i m σ' H' ⟨hm, γ, F', δ', S', r2, sb, hs2, h2⟩ => ?_⟩
  · rw [List.append_nil]
    exact ⟨r1, Sub.refl _, hs.mono q1.sub, h1⟩
  · have v2 : ItOk X.w X.K X.mg F' (α ++ β ++ γ) J ds := v1.mono sb
    by_cases hlt : i < ds.length
    · obtain ⟨d, hd⟩ : ∃ d, ds[i]? = some d := ⟨_, List.getElem?_eq_getElem hlt⟩
      refine .inr ⟨v2.go F' H' i (Sub.refl _) r2.sub hlt, fun σ2 H2 => ∃ γ F' δ' S', Rel X.w X.K X.mg (α ++ β ++ γ) F' H2 S' ∧ Sub F1 F' ∧ Slots X.w X.K X.mg F' (α ++ β ++ γ) σ2 δ' ∧ wpS X.w X.K X.mg (α ++ β ++ γ) F' H2 (forL g r (ds.drop (i + 1)) δ' S') E W, fun σ2 H2 z => ⟨m - 1, by omega, by omega, z⟩, fun x H2 hy => ?_⟩
      obtain ⟨F2, r3, q3, v3⟩ := v2.came r2 hd hy
      rw [drop_cons hd] at h2
      have h3 := wpS.step q3 h2
      refine s2 (α ++ β ++ γ ++ []) F2 σ' H2 δ' S' x d _ r3 (hs2.mono q3.sub) v3 (wpS.out h3 (hs2.mono q3.sub) fun δ1 S2 _ σ1 H3 ε F3 r4 q4 v4 h4 => ?_)
      refine s3 (α ++ β ++ γ ++ [] ++ ε) F3 σ1 H3 δ1 S2 _ r4 v4 ?_
      have sb3 : Sub F1 F3 := (sb.trans q3.sub).trans q4.sub
      have ass : ∀ ζ : List Addr, α ++ β ++ γ ++ [] ++ ε ++ ζ = α ++ β ++ (γ ++ ε ++ ζ) := fun ζ => by simp [List.append_assoc]
      cases q : r δ1 S2 with
      | nx δ2 S3 =>
        rw [q] at h4
        intro σ4 H4 ζ F4 r5 q5 v5
        have h5 := wpS.step q5 h4
        rw [ass] at r5 v5 h5
        exact ⟨_, F4, δ2, S3, r5, sb3.trans q5.sub, v5, h5⟩
      | ct δ2 S3 =>
        rw [q] at h4
        intro σ4 H4 ζ F4 r5 q5 v5
        have h5 := wpS.step q5 h4
        rw [ass] at r5 v5 h5
        exact ⟨_, F4, δ2, S3, r5, sb3.trans q5.sub, v5, h5⟩
      | bk δ2 S3 => rw [q] at h4; exact h4
      | rt d S3 => rw [q] at h4; exact h4
      | err c fs δ2 S3 => rw [q] at h4; exact h4
      | stuck => rw [q] at h4; exact h4
    · have e : i = ds.length := by omega
      subst e
      refine .inl ⟨v2.stop F' H' (Sub.refl _) r2.sub, ?_⟩
      rw [List.drop_length] at h2
      exact wpS.nx h2 r2 hs2
theorem psd_while {c : Expr} {body : List Stmt} {r : RS} (fuel : Sl → Sto → Nat) (hp : PassesOwn (model X.prog X.w) X.A X.env X.xe) (hcd : PB X W c ba) (hb : PSds X W body r) : PSd X W (.While c body [] pos) (sWhile fuel ba r) := by
  obtain ⟨tc, p1, s1⟩ := hcd.ex
  obtain ⟨tb, p3, s3⟩ := hb.ex
  refine ⟨_, ps_while hp p1 p3, fun α F σ H δ S E hr hs h => ?_⟩
  refine ⟨fun m σ' H' => ∃ γ F' δ' S', Rel X.w X.K X.mg (α ++ γ) F' H' S' ∧ Slots X.w X.K X.mg F' (α ++ γ) σ' δ' ∧ wpS X.w X.K X.mg (α ++ γ) F' H' (whileL ba r m δ' S') E W, ⟨fuel δ S, [], F, δ, S, ?_⟩, fun m σ' H' ⟨γ, F', δ', S', r2, hs2, h2⟩ => ?_⟩
  · rw [List.append_nil]
    exact ⟨hr, hs, h⟩
  · cases m with
    | zero => exact h2.elim
    | succ m =>
      refine s1 (α ++ γ) F' σ' H' δ' S' _ r2 hs2 (wpS.out h2 hs2 fun k S2 _ x H3 ε F3 r4 q4 v4 h4 => ?_)
      have e : x = k := v4
      subst e
      cases x with
      | false => exact wpS.nx h4 r4 (hs2.mono q4.sub)
      | true =>
        refine ⟨fun σ2 H2 => ∃ γ F' δ' S', Rel X.w X.K X.mg (α ++ γ) F' H2 S' ∧ Slots X.w X.K X.mg F' (α ++ γ) σ2 δ' ∧ wpS X.w X.K X.mg (α ++ γ) F' H2 (whileL ba r m δ' S') E W, fun σ2 H2 z => ⟨m, Nat.lt_succ_self m, z⟩, ?_⟩
        refine s3 (α ++ γ ++ ε) F3 σ' H3 δ' S2 _ r4 (hs2.mono q4.sub) ?_
        have ass : ∀ ζ : List Addr, α ++ γ ++ ε ++ ζ = α ++ (γ ++ ε ++ ζ) := fun ζ => by simp [List.append_assoc]
        rw [if_pos rfl] at h4
        cases q : r δ' S2 with
        | nx δ2 S3 =>
          rw [q] at h4
          intro σ4 H4 ζ F4 r5 q5 v5
          have h5 := wpS.step q5 h4
          rw [ass] at r5 v5 h5
          exact ⟨_, F4, δ2, S3, r5, v5, h5⟩
        | ct δ2 S3 =>
          rw [q] at h4
          intro σ4 H4 ζ F4 r5 q5 v5
          have h5 := wpS.step q5 h4
          rw [ass] at r5 v5 h5
          exact ⟨_, F4, δ2, S3, r5, v5, h5⟩
        | bk δ2 S3 => rw [q] at h4; exact h4
        | rt d S3 => rw [q] at h4; exact h4
        | err c fs δ2 S3 => rw [q] at h4; exact h4
        | stuck => rw [q] at h4; exact h4
end
end DL

set_option Elab.async false
set_option linter.all false
set_option maxRecDepth 100000
set_option maxHeartbeats 4000000
set_option autoImplicit false
/-! Data layer, sixth part: list comprehensions, defs. -/
namespace DL
open PySem PySem.Spec PyProof.Rows L2

abbrev W0 : WX := fun _ _ _ _ => False
section
variable {X : Cx} {W : WX} {a b c e : Expr} {es rest : List Expr} {ra rb rc : RE} {ba bb : RB} {rs : RA} {pos p : Pos} {wd : World} {K : Fg} {mg : Str → Option Value} {α β : List Addr} {F F1 H H1 : Hp} {S : Sto}
/-- an expression's reading by its mirror alone -/
def tCanE (wd : World) (K : Fg) (mg : Str → Option Value) (W : WX) (r : RE) : TE := fun σ H Q => ∃ α F δ S, Rel wd K mg α F H S ∧ Slots wd K mg F α σ δ ∧ wp wd K mg α F H (relD wd K mg) (r δ S) Q (fun c d H' => W c d σ H')
def tCanB (wd : World) (K : Fg) (mg : Str → Option Value) (W : WX) (r : RB) : TT := fun σ H Q => ∃ α F δ S, Rel wd K mg α F H S ∧ Slots wd K mg F α σ δ ∧ wp wd K mg α F H relB (r δ S) Q (fun c d H' => W c d σ H')
theorem PD.can (h : PD X W a ra) : PE X a (tCanE X.w X.K X.mg W ra) := by
  obtain ⟨t, p, s⟩ := h.ex
  exact ⟨fun pins sh σ H Q I ⟨α, F, δ, S, h1, h2, h3⟩ => p.run pins sh σ H Q I (s α F σ H δ S Q h1 h2 h3)⟩
theorem PB.can (h : PB X W a ba) : PT X a (tCanB X.w X.K X.mg W ba) := by
  obtain ⟨t, p, s⟩ := h.ex
  exact ⟨fun pins sh σ H Q I ⟨α, F, δ, S, h1, h2, h3⟩ => p.run pins sh σ H Q I (s α F σ H δ S Q h1 h2 h3)⟩

/-! ### a comprehension's own targets -/
theorem wipe_set {σ : L2.St} {i : Nat} {x : Option V} : ∀ {vs : List Nat}, wipe (σ.set i x) vs = if i ∈ vs then wipe σ vs else (wipe σ vs).set i x
  | [] => rfl
  | v :: vs => by
    unfold wipe
    rw [wipe_set]
    by_cases h : i ∈ vs
    · rw [if_pos h, if_pos (List.mem_cons_of_mem _ h)]
    · rw [if_neg h]
      by_cases z : i = v
      · subst z
        rw [if_pos List.mem_cons_self, List.set_set]
      · rw [if_neg (by intro q; rcases List.mem_cons.mp q with q | q; exact z q; exact h q)]
        exact List.set_comm _ _ z
structure PGx (X : Cx) (vs : List Nat) (tg : Expr) (t : TG) (g : RG) : Prop where
  pg : PG X tg t
  snd : ∀ α F σ H δ S v d (Q : L2.St → Hp → Prop), Rel X.w X.K X.mg α F H S → Slots X.w X.K X.mg F α σ δ → DV X.w X.K X.mg F α v d → wp X.w X.K X.mg α F H (fun F α σ' δ' => Slots X.w X.K X.mg F α σ' δ' ∧ wipe σ' vs = wipe σ vs) (g d δ S) Q (fun _ _ _ => False) → t v σ H Q
  ne : ∀ d δ S c fs S', g d δ S ≠ .err c fs S'
structure PGxs (X : Cx) (vs : List Nat) (tg : List Expr) (t : TGs) (g : List D → Sl → Sto → Res Sl) : Prop where
  pg : PGs X tg t
  snd : ∀ α F σ H δ S v d (Q : L2.St → Hp → Prop), Rel X.w X.K X.mg α F H S → Slots X.w X.K X.mg F α σ δ → DVs X.w X.K X.mg F α v d → wp X.w X.K X.mg α F H (fun F α σ' δ' => Slots X.w X.K X.mg F α σ' δ' ∧ wipe σ' vs = wipe σ vs) (g d δ S) Q (fun _ _ _ => False) → t v σ H Q
  ne : ∀ d δ S c fs S', g d δ S ≠ .err c fs S'
  len : ∀ ds δ S δ' S', g ds δ S = .ok δ' S' → ds.length = tg.length
theorem pgx_name {vs : List Nat} (i : Nat) {x : Str} (hN : X.N.Nodup) (hv : i ∈ vs := by decide) (hi : X.N[i]? = some x := by rfl) (hx : Loc X.env.scope x := by first | exact Or.inl rfl | exact Or.inr rfl) (hf : X.fn x = true ∨ X.env.scope.names.lookup x = some .local := by first | exact .inl rfl | exact .inr rfl | assumption) : PGx X vs (.Name x pos) (L2.gName i) (gName i) := by
  refine ⟨pg_name hN hi hx hf, fun α F σ H δ S v d Q hr hs hd h => ?_, fun d δ S c fs S' h => by unfold gName at h; split at h <;> cases h⟩
  unfold gName at h
  split at h
  · exact h.now hr ⟨hs.set hd, by rw [wipe_set, if_pos hv]⟩
  · exact h.elim
theorem pgxs_nil {vs : List Nat} : PGxs X vs [] L2.gNil gNil := by
  refine ⟨pgs_nil, fun α F σ H δ S v d Q hr hs hv h => ?_, fun d δ S c fs S' h => ?_, fun ds δ S δ' S' h => ?_⟩
  · cases hv with
    | nil => exact ⟨rfl, h.now hr ⟨hs, rfl⟩⟩
    | cons _ _ => exact h.elim
  · cases d <;> cases h
  · cases ds with
    | nil => rfl
    | cons _ _ => cases h
theorem pgxs_cons {vs : List Nat} {t : TG} {t' : TGs} {g : RG} {u : List D → Sl → Sto → Res Sl} (h1 : PGx X vs e t g) (h2 : PGxs X vs es t' u) (hsy : (assignEach (e :: es) X.env).map (·.2) = assign e X.env :: (assignEach es X.env).map (·.2) := by rfl) : PGxs X vs (e :: es) (L2.gCons t t') (gCons g u) := by
  refine ⟨pgs_cons h1.pg h2.pg hsy, fun α F σ H δ S v d Q hr hs hv h => ?_, fun d δ S c fs S' h => ?_, fun ds δ S δ' S' h => ?_⟩
  · cases hv with
    | nil => exact h.elim
    | cons hv ht =>
      rename_i v d vs' ds
      refine ⟨v, vs', rfl, h1.snd α F σ H δ S v d _ hr hs hv (wp.bind h fun δ1 S1 _ σ1 H1 β F1 r1 q1 hs1 q => ?_)⟩
      refine h2.snd (α ++ β) F1 σ1 H1 δ1 S1 vs' ds Q r1 hs1.1 (ht.mono q1.sub) ?_
      rw [hs1.2]
      exact q
  · cases d with
    | nil => cases h
    | cons d r =>
      have h' : (g d δ S).bind (fun δ1 S1 => u r δ1 S1) = .err c fs S' := h
      cases q : g d δ S with
      | ok a S1 => rw [q] at h'; exact h2.ne _ _ _ _ _ _ h'
      | err c fs S1 => exact h1.ne _ _ _ _ _ _ q
      | stuck => rw [q] at h'; cases h'
  · cases ds with
    | nil => cases h
    | cons d r =>
      have h' : (g d δ S).bind (fun δ1 S1 => u r δ1 S1) = .ok δ' S' := h
      cases q : g d δ S with
      | ok a S1 => rw [q] at h'; rw [List.length_cons, List.length_cons, h2.len _ _ _ _ _ h']
      | err c fs S1 => rw [q] at h'; cases h'
      | stuck => rw [q] at h'; cases h'
theorem pgx_tup {vs : List Nat} {k : Nat} {t : TGs} {u : List D → Sl → Sto → Res Sl} (hc : X.calm = true) (h : PGxs X vs es t u) (hn : (assignEach es X.env).length = es.length := by rfl) (hst : (assignEach es X.env).findIdx? (·.1) = none := by rfl) : PGx X vs (.Tuple es k pos) (L2.gTup X.K es.length t) (gTup u) := by
  refine ⟨pg_tup hc h.pg hn hst, fun α F σ H δ S v d Q hr hs hv h0 => ?_, fun d δ S c fs S' h0 => ?_⟩
  · unfold gTup at h0
    cases q : deref S d with
    | tup ds =>
      rw [q] at h0
      dsimp only at h0
      obtain ⟨a, xs, e1, e2, e3⟩ := hr.viewT hv q
      have len : ds.length = es.length := by
        cases q2 : u ds δ S with
        | ok δ' S' => exact h.len _ _ _ _ _ q2
        | err c fs S' => exact absurd q2 (h.ne _ _ _ _ _ _)
        | stuck => rw [q2] at h0; exact h0.elim
      exact ⟨a, xs, e1, e2, by rw [e3.length]; exact len, h.snd α F σ H δ S xs ds Q hr hs e3 h0⟩
    | tux ds =>
      rw [q] at h0
      dsimp only at h0
      obtain ⟨a, xs, e1, e2, e3⟩ := hr.viewX hv q
      have len : ds.length = es.length := by
        cases q2 : u ds δ S with
        | ok δ' S' => exact h.len _ _ _ _ _ q2
        | err c fs S' => exact absurd q2 (h.ne _ _ _ _ _ _)
        | stuck => rw [q2] at h0; exact h0.elim
      exact ⟨a, xs, e1, e2, by rw [e3.length]; exact len, h.snd α F σ H δ S xs ds Q hr hs e3 h0⟩
    | _ => rw [q] at h0; exact h0.elim
  · unfold gTup at h0
    cases q : deref S d with
    | tup ds => rw [q] at h0; exact h.ne _ _ _ _ _ _ h0
    | tux ds => rw [q] at h0; exact h.ne _ _ _ _ _ _ h0
    | _ => rw [q] at h0; cases h0
theorem Slots.wipe {σ : L2.St} {δ : Sl} (h : Slots wd K mg F α σ δ) : ∀ vs : List Nat, Slots wd K mg F α (L2.wipe σ vs) (wipeD δ vs)
  | [] => h
  | v :: vs => by
    have ih := Slots.wipe h vs
    refine ⟨by show ((L2.wipe σ vs).set v none).length = ((wipeD δ vs).set v none).length; rw [List.length_set, List.length_set]; exact ih.1, fun j d e => ?_⟩
    have e' : ((wipeD δ vs).set v none)[j]? = some (some d) := e
    show ∃ w, ((L2.wipe σ vs).set v none)[j]? = some (some w) ∧ _
    by_cases z : v = j
    · subst z
      have hl : v < (wipeD δ vs).length := by
        have := (List.getElem?_eq_some_iff.mp e').1
        rw [List.length_set] at this; exact this
      rw [List.getElem?_set_self hl] at e'
      cases e'
    · rw [List.getElem?_set_ne z] at e' ⊢
      exact ih.2 j d e'

/-- what walks a comprehension: read within its block -/
structure PLc (X : Cx) (vs : List Nat) (scope : Scope) (tg elt : Expr) (ifs : List Expr) (t : TG) (tt : TT) (g : RG) (rt : RB) (re : RE) : Prop where
  g : ∀ (s : Shared) (H : Hp) (C : Addr) (cl : List (Str × Addr)) (fp : List Addr), PGx (X.blk s H scope (compEnvC scope cl C X.env) fp) vs tg t g
  t : ∀ (s : Shared) (H : Hp) (C : Addr) (cl : List (Str × Addr)) (fp : List Addr), PTs (X.blk s H scope (compEnvC scope cl C X.env) fp) ifs tt
  ts : ∀ α F σ H δ S (Q : Bool → Hp → Prop), Rel X.w X.K X.mg α F H S → Slots X.w X.K X.mg F α σ δ → wp X.w X.K X.mg α F H relB (rt δ S) Q (fun _ _ _ => False) → tt σ H Q
  e : ∀ (s : Shared) (H : Hp) (C : Addr) (cl : List (Str × Addr)) (fp : List Addr), PD (X.blk s H scope (compEnvC scope cl C X.env) fp) W0 elt re
theorem plc_no {vs : List Nat} {scope : Scope} {tg elt : Expr} {t : TG} {g : RG} {re : RE} (hg : ∀ (s : Shared) (H : Hp) (C : Addr) (cl : List (Str × Addr)) (fp : List Addr), PGx (X.blk s H scope (compEnvC scope cl C X.env) fp) vs tg t g)
    (he : ∀ (s : Shared) (H : Hp) (C : Addr) (cl : List (Str × Addr)) (fp : List Addr), PD (X.blk s H scope (compEnvC scope cl C X.env) fp) W0 elt re) : PLc X vs scope tg elt [] t tYes g bYes re :=
  ⟨hg, fun _ _ _ _ _ => pts_nil, fun α F σ H δ S Q hr _ h => wp.now (b := true) h hr rfl, he⟩
theorem plc_if {vs : List Nat} {scope : Scope} {tg elt c : Expr} {t : TG} {g : RG} {bc : RB} {re : RE} (hg : ∀ (s : Shared) (H : Hp) (C : Addr) (cl : List (Str × Addr)) (fp : List Addr), PGx (X.blk s H scope (compEnvC scope cl C X.env) fp) vs tg t g)
    (hc : ∀ (s : Shared) (H : Hp) (C : Addr) (cl : List (Str × Addr)) (fp : List Addr), PB (X.blk s H scope (compEnvC scope cl C X.env) fp) W0 c bc) (he : ∀ (s : Shared) (H : Hp) (C : Addr) (cl : List (Str × Addr)) (fp : List Addr), PD (X.blk s H scope (compEnvC scope cl C X.env) fp) W0 elt re) :
    PLc X vs scope tg elt [c] t (tCanB X.w X.K X.mg W0 bc) g bc re :=
  ⟨hg, fun s H C cl fp => pts_one (hc s H C cl fp).can, fun α F σ H δ S Q hr hs h => ⟨α, F, δ, S, hr, hs, h⟩, he⟩
theorem bind_ok {A B : Type} {r : Res A} {f : A → Sto → Res B} {b : B} {S' : Sto} (h : r.bind f = .ok b S') : ∃ a S1, r = .ok a S1 ∧ f a S1 = .ok b S' := by
  cases r with
  | ok a S1 => exact ⟨a, S1, rfl, h⟩
  | err c fs S1 => cases h
  | stuck => cases h
theorem wipe_idem (σ : L2.St) : ∀ vs : List Nat, L2.wipe (L2.wipe σ vs) vs = L2.wipe σ vs
  | [] => rfl
  | v :: vs => by
    show (L2.wipe ((L2.wipe σ vs).set v none) vs).set v none = (L2.wipe σ vs).set v none
    rw [wipe_set, wipe_idem σ vs]
    split
    · rfl
    · rw [List.set_set]
structure Stay (wd : World) (K : Fg) (mg : Str → Option Value) (α : List Addr) (F H : Hp) (ad : Addr) (acc : List V) (accD : List D) (γ : List Addr) (F' H' : Hp) (S' : Sto) : Prop where
  rel : Rel wd K mg (α ++ γ) F' H' S'
  stp : Stp α F H γ F' H'
  nin : ad ∉ α ++ γ
  nF : F' ad = none
  at' : H' ad = some (.lst acc)
  dvs : DVs wd K mg F' (α ++ γ) acc accD
theorem Stay.step {ad : Addr} {acc : List V} {accD : List D} {γ ε : List Addr} {F' H' F2 H2 : Hp} {S' S2 : Sto} (st : Stay wd K mg α F H ad acc accD γ F' H' S') (r : Rel wd K mg (α ++ γ ++ ε) F2 H2 S2) (q : Stp (α ++ γ) F' H' ε F2 H2) : Stay wd K mg α F H ad acc accD (γ ++ ε) F2 H2 S2 := by
  have hn : H' ad ≠ none := by rw [st.at']; exact fun z => nomatch z
  refine ⟨by rw [← List.append_assoc]; exact r, st.stp.trans q, ?_, q.fnew ad st.nin st.nF hn, q.frame ad _ st.nin st.at', by rw [← List.append_assoc]; exact st.dvs.mono q.sub⟩
  rw [← List.append_assoc]
  intro z
  rcases List.mem_append.mp z with z | z
  · exact st.nin z
  · exact hn (q.new ad z)
/-- the loop of a comprehension -/
theorem lc_all {scope : Scope} {vs : List Nat} {tg elt : Expr} {ifs : List Expr} {t : TG} {tt : TT} {g : RG} {rt : RB} {re : RE} (L : PLc X vs scope tg elt ifs t tt g rt re) {σ : L2.St} {δ : Sl} {S1 S2 : Sto} {ds zs : List D} {J : It} {ad : Addr} {Qd : Hp → Prop}
    (hr : Rel X.w X.K X.mg α F H S1) (hs : Slots X.w X.K X.mg F α σ δ) (hJ : ItOk X.w X.K X.mg F α J ds) (hD : H ad = none) (hz : lcL g rt re ds (wipeD δ vs) S1 = .ok zs S2) (hl : zs.length ≤ sizeLine)
    (hq : ∀ H' β F', Rel X.w X.K X.mg (α ++ β) F' H' S2 → Stp α F H β F' H' → ad ∉ α ++ β → F' ad = none → Own X.w X.K X.mg F' (α ++ β) H' ad (.lst zs) → Qd H') :
    ∃ Wl : Nat → Nat → Hp → Prop, (∃ m, Wl 0 m (upd H ad (.lst []))) ∧ ∀ i m H, Wl i m H → (J.stop i H ∧ Qd H) ∨ (J.go i H ∧ ∃ Nx : Hp → Prop, (∀ H', Nx H' → ∃ m', m' < m ∧ Wl (i + 1) m' H') ∧ ∀ x H', J.yld i H x H' → t x (L2.wipe σ vs) H' fun σ2 H2 => L2.wipe σ2 vs = L2.wipe σ vs ∧ tt σ2 H2 fun b H3 =>
      if b = true then tCanE X.w X.K X.mg W0 re σ2 H3 fun y H4 => ∃ acc, H4 ad = some (.lst acc) ∧ acc.length < sizeLine ∧ Nx (upd H4 ad (.lst (acc ++ [y]))) else Nx H3) := by
  refine ⟨fun i m H' => i + m = ds.length ∧ ∃ γ F' S' acc accD, Stay X.w X.K X.mg α F H ad acc accD γ F' H' S' ∧
    (lcL g rt re (ds.drop i) (wipeD δ vs) S').bind (fun ys S3 => .ok (accD ++ ys) S3) = .ok zs S2, ⟨ds.length, by omega, [], F, S1, [], [], ?_, ?_⟩, fun i m H' ⟨hm, γ, F', S', acc, accD, st, eq⟩ => ?_⟩
  · have n := hr.notin hD
    have f := hr.notF hD
    refine ⟨?_, Stp.refl.other hD, ?_, f, upd_same, .nil⟩
    · rw [List.append_nil]; exact hr.other n f
    · rw [List.append_nil]; exact n
  · rw [List.drop_zero, hz]
    rfl
  · have v2 : ItOk X.w X.K X.mg F' (α ++ γ) J ds := hJ.mono st.stp.sub
    by_cases hlt : i < ds.length
    · obtain ⟨d, hd⟩ : ∃ d, ds[i]? = some d := ⟨_, List.getElem?_eq_getElem hlt⟩
      refine .inr ⟨v2.go F' H' i (Sub.refl _) st.rel.sub hlt, fun H4 => ∃ γ F' S' acc accD, Stay X.w X.K X.mg α F H ad acc accD γ F' H4 S' ∧
        (lcL g rt re (ds.drop (i + 1)) (wipeD δ vs) S').bind (fun ys S3 => .ok (accD ++ ys) S3) = .ok zs S2, fun H4 z => ⟨m - 1, by omega, by omega, z⟩, fun x H2 hy => ?_⟩
      obtain ⟨F2, r3, q3, v3⟩ := v2.came st.rel hd hy
      have st3 := st.step r3 q3
      rw [drop_cons hd] at eq
      obtain ⟨ys, S3, eq1, eq2⟩ := bind_ok eq
      cases eq2
      unfold lcL at eq1
      obtain ⟨δ1, S4, eg, eq1⟩ := bind_ok eq1
      obtain ⟨k, S5, et, eq1⟩ := bind_ok eq1
      have hs3 : Slots X.w X.K X.mg F2 (α ++ γ ++ []) (L2.wipe σ vs) (wipeD δ vs) := (((hs.mono st.stp.sub).mono q3.sub).wipe vs)
      refine (L.g X.s_0 H 0 [] []).snd (α ++ γ ++ []) F2 (L2.wipe σ vs) H2 (wipeD δ vs) S' x d _ r3 hs3 v3 ?_
      rw [eg]
      intro σ1 H5 ε F5 r5 q5 ⟨hs5, hw⟩
      rw [List.append_assoc α γ []] at q5 r5 hs5
      have st5 := st3.step r5 q5
      refine ⟨hw.trans (wipe_idem σ vs), ?_⟩
      refine L.ts _ F5 σ1 H5 δ1 S4 _ r5 hs5 ?_
      rw [et]
      intro b H6 ζ F6 r6 q6 eb
      have eb : b = k := eb
      subst eb
      rw [List.append_assoc α (γ ++ []) ε] at q6 r6
      have st6 := st5.step r6 q6
      cases b with
      | false =>
        rw [if_neg (by decide)]
        rw [if_neg (by decide)] at eq1
        exact ⟨_, F6, S5, acc, accD, st6, by rw [eq1]; rfl⟩
      | true =>
        rw [if_pos rfl]
        rw [if_pos rfl] at eq1
        obtain ⟨y, S6, ey, eq1⟩ := bind_ok eq1
        obtain ⟨ys', S7, er, eq1⟩ := bind_ok eq1
        cases eq1
        have hs6 := hs5.mono (β := ζ) q6.sub
        rw [List.append_assoc α (γ ++ []) ε] at hs6
        refine ⟨_, F6, δ1, S5, r6, hs6, ?_⟩
        rw [ey]
        intro v H7 η F7 r7 q7 v7
        rw [List.append_assoc α (γ ++ [] ++ ε) ζ] at q7 r7 v7
        have st7 := st6.step r7 q7
        have hlen : acc.length < sizeLine := by
          have e1 := st.dvs.length
          rw [List.length_append, List.length_cons] at hl
          omega
        have v7 : DV X.w X.K X.mg F7 _ v y := v7
        refine ⟨acc, st7.at', hlen, _, F7, S6, acc ++ [v], accD ++ [y], ⟨st7.rel.other st7.nin st7.nF, ?_, st7.nin, st7.nF, upd_same, st7.dvs.append (.cons ?_ .nil)⟩, ?_⟩
        · exact st7.stp.other hD
        · simpa only [List.append_assoc] using v7
        · rw [er]
          show Res.ok (accD ++ [y] ++ ys') _ = _
          rw [List.append_assoc] <;> rfl
    · have e : i = ds.length := by omega
      subst e
      rw [List.drop_length] at eq
      have eq' : Res.ok (accD ++ []) S' = Res.ok zs S2 := eq
      rw [List.append_nil] at eq'
      cases eq'
      exact .inl ⟨v2.stop F' H' (Sub.refl _) st.rel.sub, hq H' γ F' st.rel st.stp st.nin st.nF ⟨acc, st.at', st.dvs⟩⟩
/-- a mirror that came to a list that fits -/
theorem lc_fits {g : RG} {rt : RB} {re : RE} {vs : List Nat} {δ : Sl} {S1 : Sto} {ds : List D} {Q : VK} {W : XK} (h : wpF wd K mg α F H ((noErr (lcL g rt re ds (wipeD δ vs) S1)).bind fun ys S2 => if ys.length ≤ sizeLine then .ok (.lst ys) S2 else .stuck) Q W) :
    ∃ zs S2, lcL g rt re ds (wipeD δ vs) S1 = .ok zs S2 ∧ zs.length ≤ sizeLine ∧ wpF wd K mg α F H (.ok (.lst zs) S2) Q W := by
  cases q : lcL g rt re ds (wipeD δ vs) S1 with
  | ok zs S2 =>
    rw [q] at h
    have h' : wpF wd K mg α F H (if zs.length ≤ sizeLine then .ok (.lst zs) S2 else .stuck) Q W := h
    split at h'
    · rename_i hl; exact ⟨zs, S2, rfl, hl, h'⟩
    · exact h'.elim
  | err c fs S2 => rw [q] at h; exact h.elim
  | stuck => rw [q] at h; exact h.elim
def sndLc (X : Cx) (wi : TI) (vs : List Nat) (t : TG) (tt : TT) (re : RE) : TE := tLc wi t tt (tCanE X.w X.K X.mg W0 re) vs
theorem lc_snd {ri : RA} {wi : TI} {scope : Scope} {vs : List Nat} {tg elt : Expr} {ifs : List Expr} {t : TG} {tt : TT} {g : RG} {rt : RB} {re : RE} (si : SndI X.w X.K X.mg W wi ri) (L : PLc X vs scope tg elt ifs t tt g rt re) {σ : L2.St} {δ : Sl} {Q : VK}
    (hr : Rel X.w X.K X.mg α F H S) (hs : Slots X.w X.K X.mg F α σ δ) (h : wpF X.w X.K X.mg α F H (rLc ri g vs rt re δ S) Q (fun c d H' => W c d σ H')) : tLc wi t tt (tCanE X.w X.K X.mg W0 re) vs σ H Q := by
  refine si α F σ H δ S _ hr hs (wpF.bind h fun ds S1 _ J H1 β F1 r1 q1 v1 h1 => ?_)
  intro ad hD
  obtain ⟨zs, S2, e1, e2, h2⟩ := lc_fits h1
  refine lc_all (Qd := fun H' => Q (.ref ad) H') L r1 (hs.mono q1.sub) v1 hD e1 e2 fun H' γ F' r2 q2 n f o => ?_
  exact h2 ad H' γ F' r2 q2 hD n f o rfl
theorem pf_lc {tg iter elt : Expr} {ifs : List Expr} {scope : Scope} {own : List (Str × Nat)} {t : TG} {tt : TT} {ri : RA} {g : RG} {rt : RB} {re : RE} (hc : X.calm = true) (hN : X.N.Nodup) (hi : PId X W tg iter ri) (ok : BlkOk X.N X.env.scope scope own) (L : PLc X (own.map (·.2)) scope tg elt ifs t tt g rt re)
    (hsx : ∀ x, foldedSetIterable iter X.env x = pure x := by intro _; rfl) : PF X W (.ListComp elt [⟨tg, iter, ifs, 0⟩] scope pos) (rLc ri g (own.map (·.2)) rt re) := by
  obtain ⟨wi, p1, s1⟩ := hi.ex
  exact ⟨_, pe_lc hc hN p1 ok (fun s H C cl fp => (L.g s H C cl fp).pg) L.t (fun s H C cl fp => (L.e s H C cl fp).can) hsx, fun α F σ H δ S Q hr hs h => lc_snd s1 L hr hs h⟩
/-- what is done with a made list: it is the store's, or stands for good -/
theorem wpF.keep {r : Res D} {σ : L2.St} {Q : VK} (h : wp wd K mg α F H (relD wd K mg) (r.bind fun d S1 => match d with | .lst ds => .ok (.lst ds) S1 | _ => .stuck) Q (fun c d H' => W c d σ H')) : wpF wd K mg α F H r Q (fun c d H' => W c d σ H') := by
  cases r with
  | ok d S' =>
    intro p H' β F' r1 s1 hp ha hf ho hd
    cases d with
    | lst ds =>
      have h2 : wp wd K mg α F H (relD wd K mg) (.ok (.lst ds) S') Q _ := h
      obtain ⟨xs, o1, o2⟩ := ho
      obtain ⟨a1, a2⟩ := r1.freeze (o := .lst xs) ha hf o1
      exact h2 (.ref p) H' β (upd F' p (.lst xs)) a1 ⟨s1.new, s1.sub.trans a2, s1.frame, s1.live, fun a g1 g2 g3 => by
        have z : a ≠ p := fun z => g3 (z ▸ hp)
        rw [upd_ne z]; exact s1.fnew a g1 g2 g3⟩ (.lst (.inl (Rd.of upd_same)) (by have := o2.mono (β := []) a2; rw [List.append_nil] at this; exact this))
    | _ => exact (show False from h).elim
  | err c fs S' => exact h
  | stuck => exact h
theorem wpF.ownd {r : Res D} {σ : L2.St} {Q : VK} (h : wp wd K mg α F H (relD wd K mg) (r.bind fun d S1 => .ok (.ptr S1.length) (S1 ++ [d])) Q (fun c d H' => W c d σ H')) : wpF wd K mg α F H r Q (fun c d H' => W c d σ H') := by
  cases r with
  | ok d S' =>
    intro p H' β F' r1 s1 hp ha hf ho hd
    have h2 : wp wd K mg α F H (relD wd K mg) (.ok (.ptr S'.length) (S' ++ [d])) Q _ := h
    refine h2 (.ref p) H' (β ++ [p]) F' ?_ ⟨fun b hb => ?_, s1.sub, s1.frame, s1.live, s1.fnew⟩ ?_
    · rw [← List.append_assoc]
      exact r1.adopt ha hf ho hd
    · rcases List.mem_append.mp hb with z | z
      · exact s1.new b z
      · have : b = p := by simpa using z
        rw [this]; exact hp
    · rw [← List.append_assoc]
      refine .ptr ?_
      rw [List.getElem?_append_right (by rw [r1.len]; exact Nat.le_refl _), r1.len, Nat.sub_self] <;> rfl
  | err c fs S' => exact h
  | stuck => exact h
/-- name = [..] on one line -/
theorem psd_setLc {i : Nat} {y : Str} {py pos' : Pos} {tg iter elt : Expr} {ifs : List Expr} {scope : Scope} {own : List (Str × Nat)} {t : TG} {tt : TT} {ri : RA} {g : RG} {rt : RB} {re : RE} (hc : X.calm = true) (hN : X.N.Nodup) (hi : PId X W tg iter ri) (ok : BlkOk X.N X.env.scope scope own) (L : PLc X (own.map (·.2)) scope tg elt ifs t tt g rt re)
    (hsw : swapsWith (.ListComp elt [⟨tg, iter, ifs, 0⟩] scope pos) (some (.Name y py)) pos'.line X.env = pure true) (hy : X.N[i]? = some y := by rfl) (hyl : X.env.scope.names.lookup y = some .local := by rfl) (hsx : ∀ x, foldedSetIterable iter X.env x = pure x := by intro _; rfl) :
    PSd X W (.Assign [.Name y py] (.ListComp elt [⟨tg, iter, ifs, 0⟩] scope pos) pos') (sAsg (rKeep (rLc ri g (own.map (·.2)) rt re)) (gName i)) ∧ PSd X W (.Assign [.Name y py] (.ListComp elt [⟨tg, iter, ifs, 0⟩] scope pos) pos') (sAsg (rOwn (rLc ri g (own.map (·.2)) rt re)) (gName i)) := by
  obtain ⟨wi, p1, s1⟩ := hi.ex
  have P := ps_setLc (te := tCanE X.w X.K X.mg W0 re) (i := i) hc hN hy hyl hsw p1 ok (fun s H C cl fp => (L.g s H C cl fp).pg) L.t (fun s H C cl fp => (L.e s H C cl fp).can) hsx
  have nm : ∀ {α β : List Addr} {F F1 H H1 : Hp} {S1 : Sto} {σ : L2.St} {δ : Sl} {E : Ends} {d : D} {v : V}, Slots X.w X.K X.mg F α σ δ → Rel X.w X.K X.mg (α ++ β) F1 H1 S1 → Stp α F H β F1 H1 → DV X.w X.K X.mg F1 (α ++ β) v d → wpS X.w X.K X.mg (α ++ β) F1 H1 ((gName i d δ S1).out δ fun δ1 S2 => .nx δ1 S2) E W → E.nx (σ.set i (some v)) H1 := by
    intro α β F F1 H H1 S1 σ δ E d v hs hr st hv h
    unfold gName at h
    split at h
    · exact wpS.nx h hr ((hs.mono st.sub).set hv)
    · exact h.elim
  refine ⟨⟨_, P, fun α F σ H δ S E hr hs h => ?_⟩, ⟨_, P, fun α F σ H δ S E hr hs h => ?_⟩⟩
  · exact lc_snd s1 L hr hs (wpF.keep (wpS.out h hs fun d S1 _ x H1 β F1 r1 q1 v1 h1 => nm hs r1 q1 v1 h1))
  · exact lc_snd s1 L hr hs (wpF.ownd (wpS.out h hs fun d S1 _ x H1 β F1 r1 q1 v1 h1 => nm hs r1 q1 v1 h1))

/-! ### defs -/
theorem closedK_snd {n : Nat} : ∀ {kvs : List (D × D)}, closedK n kvs = true → closedL n (kvs.map (·.2)) = true
  | [], _ => rfl
  | (k, v) :: r, h => by
    unfold closedK at h
    rw [Bool.and_eq_true, Bool.and_eq_true] at h
    show (D.closed n v && closedL n (r.map (·.2))) = true
    rw [h.1.2, closedK_snd h.2]
    rfl
mutual
theorem DV.shrink {v : V} {d : D} : D.closed α.length d = true → DV wd K mg F (α ++ β) v d → DV wd K mg F α v d
  | _, .non => .non
  | _, .bl b => .bl b
  | _, .int i => .int i
  | _, .str x => .str x
  | h, .tup a t => .tup a (DVs.shrink (by simpa [D.closed] using h) t)
  | h, .tux a t => .tux a (DVs.shrink (by simpa [D.closed] using h) t)
  | h, .lst a t => .lst a (DVs.shrink (by simpa [D.closed] using h) t)
  | h, .ptr e => by
    rename_i k a
    have hk : k < α.length := by simpa [D.closed] using h
    rw [List.getElem?_append_left hk] at e
    exact .ptr e
  | _, .fn e => .fn e
  | _, .ty n => .ty n
theorem DVs.shrink {vs : List V} {ds : List D} : closedL α.length ds = true → DVs wd K mg F (α ++ β) vs ds → DVs wd K mg F α vs ds
  | _, .nil => .nil
  | h, .cons a t => by
    unfold closedL at h
    rw [Bool.and_eq_true] at h
    exact .cons (DV.shrink h.1 a) (DVs.shrink h.2 t)
end
theorem NVs.shrink {xs : List (NestedKey × Addr × V)} : ∀ {kvs : List (D × D)}, closedK α.length kvs = true → NVs wd K mg F (α ++ β) xs kvs → NVs wd K mg F α xs kvs := fun {kvs} h q => by
  induction q with
  | nil => exact .nil
  | cons h1 h2 h3 h4 h6 _ ih =>
    unfold closedK at h
    rw [Bool.and_eq_true, Bool.and_eq_true] at h
    exact .cons h1 h2 (h3.shrink h.1.1) h4 (h6.shrink h.1.2) (ih h.2)
theorem Own.shrink {a : Addr} {d : D} (o : Own wd K mg F (α ++ β) H a d) (hc : D.closed α.length d = true) : Own wd K mg F α H a d := by
  cases d with
  | lst ds => obtain ⟨xs, e1, e2⟩ := o; exact ⟨xs, e1, e2.shrink (by simpa [D.closed] using hc)⟩
  | dct kvs => obtain ⟨ws, e1, e2, e3⟩ := o; exact ⟨ws, e1, e2, e3.shrink (closedK_snd (by simpa [D.closed] using hc))⟩
  | dcn kvs => obtain ⟨ws, e1, e2⟩ := o; exact ⟨ws, e1, e2.shrink (by simpa [D.closed] using hc)⟩
  | lck u =>
    cases u with
    | dct kvs => obtain ⟨o, ws, e0, e1, e2, e3⟩ := o; exact ⟨o, ws, e0, e1, e2, e3.shrink (closedK_snd (by simpa [D.closed] using hc))⟩
    | dcn kvs => obtain ⟨o, ws, e0, e1, e2⟩ := o; exact ⟨o, ws, e0, e1, e2.shrink (by simpa [D.closed] using hc)⟩
    | _ => exact o.elim
  | non => trivial
  | _ => exact o.elim
theorem closedL_get {n : Nat} : ∀ {ds : List D} {k : Nat} {d : D}, closedL n ds = true → ds[k]? = some d → D.closed n d = true
  | [], _, _, _, e => by simp at e
  | d :: r, 0, _, h, e => by
    unfold closedL at h
    rw [Bool.and_eq_true] at h
    simp at e; subst e
    exact h.1
  | d :: r, k + 1, _, h, e => by
    unfold closedL at h
    rw [Bool.and_eq_true] at h
    exact closedL_get (k := k) h.2 (by simpa using e)
theorem Rel.trunc (r : Rel wd K mg (α ++ β) F H S) (h : closedL α.length (S.take α.length) = true) : Rel wd K mg α F H (S.take α.length) := by
  have hl := r.len
  rw [List.length_append] at hl
  refine ⟨r.sub, by rw [List.length_take]; omega, (List.nodup_append.mp r.nd).1, fun a ha => r.here a (List.mem_append_left _ ha), fun k a d h1 h2 => ?_⟩
  have hk : k < α.length := (List.getElem?_eq_some_iff.mp h1).1
  have hc := closedL_get h h2
  rw [List.getElem?_take, if_pos hk] at h2
  obtain ⟨o, q⟩ := r.own k a d (by rw [List.getElem?_append_left hk]; exact h1) h2
  exact ⟨o.shrink hc, q⟩
theorem Rel.give {k : Nat} {a : Addr} {u : D} (r : Rel wd K mg (α ++ β) F H S) (hc : closedL α.length (S.take α.length) = true) (ha : (α ++ β)[k]? = some a) (hk : α.length ≤ k) (hu : S[k]? = some u) (ho : u.owned = true) (hd : D.closed α.length u = true) : a ∈ β ∧ Rel wd K mg (α ++ [a]) F H (S.take α.length ++ [u]) := by
  have r0 := Rel.trunc r hc
  have hb : a ∈ β := by
    rw [List.getElem?_append_right hk] at ha
    exact List.mem_of_getElem? ha
  have hn : a ∉ α := fun h => (List.nodup_append.mp r.nd).2.2 a h a hb rfl
  have hz : u.open = true := by cases u <;> first | rfl | cases ho
  obtain ⟨o1, o2⟩ := r.own k a u ha hu
  exact ⟨hb, r0.adopt hn (o2 hz) (o1.shrink hd) hz⟩
theorem Stp.one {F' H' : Hp} {a : Addr} (s : Stp α F H β F' H') (h : a ∈ β) : Stp α F H [a] F' H' := ⟨fun b hb => by rw [List.mem_singleton.mp hb]; exact s.new a h, s.sub, s.frame, s.live, s.fnew⟩
theorem Stp.drop {F' H' : Hp} (s : Stp α F H β F' H') : Stp α F H [] F' H' := ⟨(fun _ h => nomatch h), s.sub, s.frame, s.live, s.fnew⟩
theorem slots_start {N : List Str} {vs : List V} {ds : List D} (hv : DVs wd K mg F α vs ds) : Slots wd K mg F α (L2.start N vs) (ds.map some ++ List.replicate (N.length - ds.length) none) := by
  have hl := hv.length
  refine ⟨by unfold L2.start; simp [hl], fun i d e => ?_⟩
  unfold L2.start
  by_cases h : i < ds.length
  · rw [List.getElem?_append_left (by simpa using h), List.getElem?_map] at e
    obtain ⟨d', e1⟩ : ∃ d', ds[i]? = some d' := ⟨_, List.getElem?_eq_getElem h⟩
    rw [e1] at e
    have : d' = d := by simpa using e
    subst this
    obtain ⟨v, e2, e3⟩ := hv.get e1
    refine ⟨v, ?_, e3⟩
    rw [List.getElem?_append_left (by rw [List.length_map, hl]; exact h), List.getElem?_map, e2] <;> rfl
  · rw [List.getElem?_append_right (by simpa using h), List.getElem?_replicate] at e
    split at e <;> cases e
theorem fn_G {P : Program} {w : World} {base : Heap} {x qual : Str} {st : Stmt} {f : Addr} {fd : FuncData} {N ps : List Str} {k : Nat} {sp : Sp} (Fu : Fun K x qual st f fd) (Sc : FnScope N ps (defScope st)) (len : ∀ vs H Q E, sp vs H Q E → vs.length = ps.length)
    (hbody : ∀ (cdv : Value) (A : Around) (outer : List Env) (s : Shared) (H : Hp) (vs : List V) (Q : VK) (E : XK), Room k (A.deeper (envOfC qual (defScope st) s.heap.objs.size f cdv)) → A.guards = some [] → sp vs H Q E →
      ∃ t, PSs (cxOf (L2.CX P w) P w K mg base N qual (defScope st) f cdv A outer s H E) (defBody st) t ∧ t ⟨fun _ H' => Q .non H', Q, fun _ _ => False, fun _ _ => False⟩ (L2.start N vs) H) : FnG P w K mg base (k + 1) f fd ps sp := by
  obtain ⟨oc, od, kV, doc, pm, an, cdv, ct, osl, rfl, lk, hcd⟩ := Fu.ex
  refine ⟨len, fun A outer s H args us vs Q E room hG e0 hb rv hsp => ?_⟩
  have kin : K.In s.heap := e0.mod.kin.keeps fun b o e => (e0.bs b o e).1
  have names : ∀ y ∈ ps.zip us, (defScope st).names.lookup y.1 = some .local ∨ ((defScope st).names.lookup y.1 = some .cell ∧ ((cellsFrom (s.heap.objs.size + 1) (defScope st).names []).lookup y.1).isSome = true) := fun y hy =>
    (Sc.par y.1 (List.of_mem_zip hy).1).imp id fun q => ⟨q, PySem.W.cellsFrom_some _ _ _ (.inl q)⟩
  refine codeAny_call_function room.depth (kin _ _ lk) rfl Sc.co Sc.gen rfl (PySem.W.codeRec_of kin hcd) (hb _ _ _ _ (wpAny_newFunctionEnv_cells Sc.kind names fun env he s1 x => ?_))
  subst he
  refine ⟨(e0.mod.nolimit.keeps fun b o e => (e0.bs b o e).1).keeps x.toInCall.keep, codeAny_func ?_⟩
  obtain ⟨t, ht, hq⟩ := hbody cdv A outer s H vs Q E (room.deeper _) hG hsp
  refine wpAny_mono (ht.run [] s1 (L2.start N vs) H _ (inv_start Sc room.hd e0 (len _ _ _ _ hsp) rv x) hq) ?_ fun _ _ hs => hs
  intro fl s' hs
  cases fl with
  | ret u =>
    obtain ⟨v, _, H', J, r, q⟩ := hs
    exact ⟨v, H', J.os, J.bare, J.base, J.hok, r, q⟩
  | next =>
    obtain ⟨_, H', J, q⟩ := hs
    exact ⟨V.non, H', J.os, J.bare, J.base, J.hok, rfl, q⟩
  | brk => obtain ⟨_, _, _, q⟩ := hs; exact q.elim
  | cont => obtain ⟨_, _, _, q⟩ := hs; exact q.elim
theorem fn_okD {P : Program} {w : World} {base : Heap} {x qual : Str} {st : Stmt} {f : Addr} {fd : FuncData} {N ps : List Str} {k : Nat} {r : RS} (Fu : Fun K x qual st f fd) (Sc : FnScope N ps (defScope st))
    (hbody : ∀ (cdv : Value) (A : Around) (outer : List Env) (s : Shared) (H : Hp) (E : XK), Room k (A.deeper (envOfC qual (defScope st) s.heap.objs.size f cdv)) → A.guards = some [] → PSds (cxOf (L2.CX P w) P w K mg base N qual (defScope st) f cdv A outer s H E) (fun cls d _ H => E cls d H) (defBody st) r) :
    FnG P w K mg base (k + 1) f fd ps (spD w K mg ps.length (mDef N.length r)) := by
  refine fn_G Fu Sc (fun vs H Q E h => h.1) fun cdv A outer s H vs Q E hr hG h => ?_
  obtain ⟨hl, α, F, S, ds, h1, h2, h3⟩ := h
  obtain ⟨t, pt, st⟩ := (hbody cdv A outer s H E hr hG).ex
  refine ⟨t, pt, st α F _ H _ S _ h1 (slots_start h2) ?_⟩
  have h3 : wp w K mg α F H (relD w K mg) (mDef N.length r ds S) Q E := h3
  have hl : α.length = S.length := h1.len
  unfold mDef at h3
  rw [← hl] at h3
  have an : α ++ [] = α := List.append_nil α
  cases q : r (ds.map some ++ List.replicate (N.length - ds.length) none) S with
  | nx δ S1 =>
    rw [q] at h3
    dsimp only at h3
    split at h3
    · rename_i hc
      intro σ' H' β F' r1 s1 _
      exact h3 .non H' [] F' (by rw [an]; exact Rel.trunc r1 hc) s1.drop .non
    · exact h3.elim
  | rt d S1 =>
    rw [q] at h3
    dsimp only at h3
    split at h3
    · rename_i hc
      rw [Bool.and_eq_true] at hc
      intro v H' β F' r1 s1 hv
      exact h3 v H' [] F' (by rw [an]; exact Rel.trunc r1 hc.2) s1.drop (by rw [an]; exact DV.shrink hc.1 hv)
    · unfold giveD at h3
      cases d with
      | ptr k =>
        dsimp only at h3
        cases q2 : S1[k]? with
        | none => rw [q2] at h3; exact h3.elim
        | some u =>
          rw [q2] at h3
          dsimp only at h3
          split at h3
          · rename_i hc
            rw [Bool.and_eq_true, Bool.and_eq_true, Bool.and_eq_true, decide_eq_true_eq] at hc
            intro v H' β F' r1 s1 hv
            cases hv with
            | ptr ea =>
              rename_i a
              obtain ⟨g1, g2⟩ := Rel.give r1 hc.2 ea hc.1.2 q2 hc.1.1.1 hc.1.1.2
              exact h3 (.ref a) H' [a] F' g2 (s1.one g1) (.ptr (by rw [List.getElem?_append_right (Nat.le_refl _), Nat.sub_self]; rfl))
          · exact h3.elim
      | _ => exact h3.elim
  | err c fs δ S1 =>
    rw [q] at h3
    dsimp only at h3
    split at h3
    · rename_i hc
      rw [Bool.and_eq_true] at hc
      intro cls dd σ' H' β F' r1 s1 _ he
      refine h3 cls dd H' [] F' (by rw [an]; exact Rel.trunc r1 hc.2) s1.drop ?_
      rw [an]
      refine ⟨he.1, he.2.imp id fun ⟨d, xs, e1, e2, e3, e4⟩ => ⟨d, xs, e1, e2, e3, DVs.shrink hc.1 e4⟩⟩
    · exact h3.elim
  | bk δ S1 => rw [q] at h3; exact h3.elim
  | ct δ S1 => rw [q] at h3; exact h3.elim
  | stuck => rw [q] at h3; exact h3.elim

/-! ### ghost steps -/
theorem psds_freeze {sts : List Stmt} {i : Nat} {r : RS} (h : PSds X W sts r) : PSds X W sts (sSeq (sFreeze i) r) := by
  obtain ⟨t, pt, st⟩ := h.ex
  refine ⟨t, pt, fun α F σ H δ S E hr hs h => ?_⟩
  unfold sSeq sFreeze at h
  cases q : δ[i]? with
  | none => rw [q] at h; exact h.elim
  | some o =>
    rw [q] at h
    cases o with
    | none => exact h.elim
    | some d =>
      cases d with
      | ptr k =>
        cases q2 : S[k]? with
        | none => simp only [q2] at h; exact h.elim
        | some u =>
          cases u with
          | lst ds =>
            simp only [q2] at h
            obtain ⟨v, e1, e2⟩ := hs.2 i _ q
            cases e2 with
            | ptr ea =>
              rename_i a
              obtain ⟨o1, o2⟩ := hr.own k a _ ea q2
              obtain ⟨xs, o3, o4⟩ := o1
              have hf := o2 rfl
              have sb : Sub F (upd F a (.lst xs)) := Sub.new hf
              have an : α ++ [] = α := List.append_nil α
              have st1 : Stp α F H [] (upd F a (.lst xs)) H := ⟨(fun _ h => nomatch h), sb, fun _ _ _ h => h, fun _ h => h, fun b h1 h2 _ => by
                have z : b ≠ a := fun z => h1 (z ▸ List.mem_of_getElem? ea)
                rw [upd_ne z]; exact h2⟩
              have rl : Rel X.w X.K X.mg α (upd F a (.lst xs)) H (S.set k .non) := by
                refine ⟨fun b u e => ?_, by rw [List.length_set]; exact hr.len, hr.nd, hr.here, fun j b u g1 g2 => ?_⟩
                · by_cases z : b = a
                  · subst z; rw [upd_same] at e; rw [o3]; exact e
                  · rw [upd_ne z] at e; exact hr.sub _ _ e
                · by_cases z : j = k
                  · subst z
                    rw [List.getElem?_set_self (List.getElem?_eq_some_iff.mp q2).1] at g2
                    cases g2
                    exact ⟨trivial, fun z => (nomatch z)⟩
                  · rw [List.getElem?_set_ne (Ne.symm z)] at g2
                    obtain ⟨h3, h4⟩ := hr.own j b u g1 g2
                    have y : b ≠ a := fun y => by
                      subst y
                      exact z ((List.getElem_inj hr.nd).mp ((List.getElem?_eq_some_iff.mp g1).2.trans (List.getElem?_eq_some_iff.mp ea).2.symm))
                    have h5 : Own X.w X.K X.mg (upd F a (.lst xs)) (α ++ []) H b u := h3.mono sb rfl
                    rw [an] at h5
                    exact ⟨h5, fun hd => by rw [upd_ne y]; exact h4 hd⟩
              have hs1 : Slots X.w X.K X.mg (upd F a (.lst xs)) α σ δ := by have := hs.mono (β := []) sb; rw [an] at this; exact this
              have hs2 : Slots X.w X.K X.mg (upd F a (.lst xs)) α σ (δ.set i (some (.lst ds))) := by
                refine ⟨by rw [List.length_set]; exact hs1.1, fun j d g => ?_⟩
                by_cases z : j = i
                · subst z
                  rw [List.getElem?_set_self (List.getElem?_eq_some_iff.mp q).1] at g
                  cases g
                  exact ⟨_, e1, .lst (.inl (Rd.of upd_same)) (by have := o4.mono (β := []) sb; rw [an] at this; exact this)⟩
                · rw [List.getElem?_set_ne (Ne.symm z)] at g
                  exact hs1.2 j d g
              have h2 := wpS.step st1 h
              rw [an] at h2
              exact st α _ σ H _ _ E rl hs2 h2
          | _ => simp only [q2] at h; exact h.elim
      | _ => exact h.elim
end
end DL

set_option Elab.async false
set_option linter.all false
set_option maxRecDepth 100000
set_option maxHeartbeats 4000000
set_option autoImplicit false
/-! Data layer, seventh part: operators on data. -/
namespace DL
open PySem PySem.Spec PyProof.Rows L2

/-! ### what they come to -/
def gAdd : Sto → D → D → Option D := fun S d e => match deref S d, deref S e with
  | .int i, .int j => some (.int (i + j))
  | .str x, .str y => if x.length + y.length ≤ sizeLine then some (.str (x ++ y)) else none
  | .tup xs, .tup ys => if xs.length + ys.length ≤ sizeLine then some (.tup (xs ++ ys)) else none
  | _, _ => none
def gCat : Sto → D → D → Option D := fun S d e => match deref S d, deref S e with
  | .lst xs, .lst ys => if xs.length + ys.length ≤ sizeLine then some (.lst (xs ++ ys)) else none
  | _, _ => none
def gSub : Sto → D → D → Option D := fun _ d e => match d, e with
  | .int i, .int j => some (.int (i - j))
  | _, _ => none
/-- the sizes of two factors -/
def mulFits (i j : Int) : Bool := decide (i.natAbs.log2 + j.natAbs.log2 < 1000000) || (decide (i.natAbs < 2 ^ 64) || decide (j.natAbs < 2 ^ 64))
def gMul : Sto → D → D → Option D := fun _ d e => match d, e with
  | .int i, .int j => if mulFits i j then some (.int (i * j)) else none
  | _, _ => none
def gRep : Sto → D → D → Option D := fun S d e => match deref S d, e with
  | .lst xs, .int k => if -(2 ^ 63) ≤ k ∧ k < 2 ^ 63 ∧ xs.length * k.toNat ≤ sizeLine then some (.lst (List.replicate k.toNat xs).flatten) else none
  | _, _ => none
def gDiv : Sto → D → D → Option D := fun _ d e => match d, e with
  | .int i, .int j => if j ≠ 0 ∧ j.natAbs.log2 < 9000 then some (.int (i.fdiv j)) else none
  | _, _ => none
def gMod : Sto → D → D → Option D := fun _ d e => match d, e with
  | .int i, .int j => if j ≠ 0 then some (.int (i.fmod j)) else none
  | _, _ => none
def gPow : Sto → D → D → Option D := fun _ d e => match d, e with
  | .int i, .int j => if 0 ≤ j ∧ ((j ≤ 1000000 ∧ i.natAbs < 2 ^ 64) ∨ (Builtin.Int.intBits i : Int) * j ≤ 2 ^ 27) then some (.int (i ^ j.toNat)) else none
  | _, _ => none
def gNeg : Sto → D → Option D := fun _ d => match d with
  | .int i => some (.int (-i))
  | _ => none
def gLt : Sto → D → D → Option D := fun _ d e => match d, e with
  | .int i, .int j => some (.bl (decide (i < j)))
  | _, _ => none
def gLe : Sto → D → D → Option D := fun _ d e => match d, e with
  | .int i, .int j => some (.bl (decide (i ≤ j)))
  | _, _ => none
def gGt : Sto → D → D → Option D := fun _ d e => match d, e with
  | .int i, .int j => some (.bl (decide (j < i)))
  | _, _ => none
def gGe : Sto → D → D → Option D := fun _ d e => match d, e with
  | .int i, .int j => some (.bl (decide (j ≤ i)))
  | _, _ => none
mutual
/-- as the model's data -/
def toPy (S : Sto) : D → Option PyData
  | .non => some .none
  | .bl b => some (.bool b)
  | .int i => some (.int i)
  | .str x => some (.str x)
  | .tup xs => (toPys S xs).map .tuple
  | .lst xs => (toPys S xs).map .list
  | _ => none
def toPys (S : Sto) : List D → Option (List PyData)
  | [] => some []
  | d :: r => match toPy S d, toPys S r with
    | some x, some xs => some (x :: xs)
    | _, _ => none
end
def eqD (S : Sto) (d e : D) : Option Bool := match toPy S (deref S d), toPy S (deref S e) with
  | some x, some y => if SeqAt.shaped x && SeqAt.shaped y then some (PyData.eqv x y) else none
  | _, _ => none
def gEq : Sto → D → D → Option D := fun S d e => (eqD S d e).map .bl
def gNe : Sto → D → D → Option D := fun S d e => (eqD S d e).map fun b => .bl (!b)
def gIs : Sto → D → D → Option D := fun _ d e => match e with
  | .non => (match d with
    | .non => some (.bl true)
    | .ptr _ => some (.bl false)
    | _ => some (.bl false))
  | .bl b => (match d with
    | .bl a => some (.bl (decide (a = b)))
    | _ => none)
  | _ => none
def gIsN : Sto → D → D → Option D := fun S d e => match gIs S d e with
  | some (.bl b) => some (.bl (!b))
  | _ => none

section
variable {X : Cx} {W : WX} {a b c e : Expr} {es rest : List Expr} {ra rb rc : RE} {ba bb : RB} {rs : RA} {pos p : Pos} {wd : World} {K : Fg} {mg : Str → Option Value} {α β : List Addr} {F F1 H H1 : Hp} {S : Sto}
theorem fmatch {x : D} {i : Int} (h : x = .int i) {v : V} (hv : DV wd K mg F α v x) : v = .int i := by subst h; cases hv; rfl
/-- two ints by a rule -/
theorem opg_int {f : Value → Value → Sem Value} {C : Int → Int → Prop} {h : Int → Int → Int} {g : Sto → D → D → Option D} (ho : OpR X f (rI C fun i j => .int (h i j)))
    (hg : ∀ S d e z, g S d e = some z → ∃ i j, d = .int i ∧ e = .int j ∧ C i j ∧ z = .int (h i j)) : OpG X f g := by
  refine ⟨_, ho, fun α F H S x y d e z Q hr hx hy hz q => ?_⟩
  obtain ⟨i, j, rfl, rfl, hc, rfl⟩ := hg S d e z hz
  cases hx; cases hy
  have an : α ++ [] = α := List.append_nil α
  exact ⟨i, j, rfl, rfl, hc, q _ H [] F (by rw [an]; exact hr) Stp.refl (.int _)⟩
theorem opg_cmp {f : Value → Value → Sem Value} {h : Int → Int → Bool} {g : Sto → D → D → Option D} (ho : OpR X f (rI0 fun i j => .bl (h i j)))
    (hg : ∀ S d e z, g S d e = some z → ∃ i j, d = .int i ∧ e = .int j ∧ z = .bl (h i j)) : OpG X f g := by
  refine ⟨_, ho, fun α F H S x y d e z Q hr hx hy hz q => ?_⟩
  obtain ⟨i, j, rfl, rfl, rfl⟩ := hg S d e z hz
  cases hx; cases hy
  have an : α ++ [] = α := List.append_nil α
  exact ⟨i, j, rfl, rfl, q _ H [] F (by rw [an]; exact hr) Stp.refl (.bl _)⟩
theorem g_sub : OpG X (binaryOp .Sub) gSub := by
  refine ⟨_, op_sub, fun α F H S x y d e z Q hr hx hy hz q => ?_⟩
  unfold gSub at hz
  split at hz
  · cases hz; cases hx; cases hy
    have an : α ++ [] = α := List.append_nil α
    exact ⟨_, _, rfl, rfl, q _ H [] F (by rw [an]; exact hr) Stp.refl (.int _)⟩
  · cases hz
theorem mulFits_ok {i j : Int} (h : mulFits i j = true) : IntMulOk i j := by
  unfold mulFits at h
  rw [Bool.or_eq_true, Bool.or_eq_true] at h
  rcases h with h | h | h
  · exact CMulW.ok (show _ < _ from of_decide_eq_true h)
  · have := of_decide_eq_true h
    exact CMul.ok (.inl ⟨by omega, by omega⟩)
  · have := of_decide_eq_true h
    exact CMul.ok (.inr ⟨by omega, by omega⟩)
theorem op_mulX : OpR X (binaryOp .Mult) (rI (fun i j => mulFits i j = true) fun i j => .int (i * j)) := opI fun _ _ _ _ _ _ _ hc q => mul_int q (mulFits_ok hc)
theorem g_mul : OpG X (binaryOp .Mult) gMul := opg_int op_mulX fun S d e z h => by
  unfold gMul at h
  split at h
  · split at h
    · rename_i q
      cases h
      exact ⟨_, _, rfl, rfl, q, rfl⟩
    · cases h
  · cases h
theorem op_fdivA : OpR X (binaryOp .FloorDiv) (rI (fun _ j => j ≠ 0 ∧ j.natAbs.log2 < 9000) fun i j => .int (i.fdiv j)) := opI fun i j _ _ _ _ _ hc q => floordiv_int hc.1 q (.inl (PyProof.noPylong_of_log2 hc.2))
theorem g_div : OpG X (binaryOp .FloorDiv) gDiv := opg_int op_fdivA fun S d e z h => by
  unfold gDiv at h
  split at h
  · split at h
    · rename_i q
      cases h
      exact ⟨_, _, rfl, rfl, q, rfl⟩
    · cases h
  · cases h
theorem g_mod : OpG X (binaryOp .Mod) gMod := opg_int op_modN fun S d e z h => by
  unfold gMod at h
  split at h
  · split at h
    · rename_i q
      cases h
      exact ⟨_, _, rfl, rfl, q, rfl⟩
    · cases h
  · cases h
def CPowW (i j : Int) : Prop := 0 ≤ j ∧ ((j ≤ 1000000 ∧ i.natAbs < 2 ^ 64) ∨ (Builtin.Int.intBits i : Int) * j ≤ 2 ^ 27)
theorem op_powW : OpR X (binaryOp .Pow) (rI CPowW fun i j => .int (i ^ j.toNat)) := opI fun _ _ _ _ _ _ _ hc q => by
  rcases hc with ⟨h0, ⟨h1, h2⟩ | h1⟩
  · exact pow_int_small h0 h1 h2 q
  · exact PyProof.Rows.pow_int h0 h1 q
theorem g_pow : OpG X (binaryOp .Pow) gPow := by
  refine ⟨_, op_powW, fun α F H S x y d e z Q hr hx hy hz q => ?_⟩
  unfold gPow at hz
  split at hz
  · split at hz
    · rename_i hc
      cases hz; cases hx; cases hy
      have an : α ++ [] = α := List.append_nil α
      exact ⟨_, _, rfl, rfl, hc, q _ H [] F (by rw [an]; exact hr) Stp.refl (.int _)⟩
    · cases hz
  · cases hz
theorem g_lt : OpG X (compareOp .Lt) gLt := opg_cmp op_lt fun S d e z h => by
  unfold gLt at h
  split at h
  · cases h; exact ⟨_, _, rfl, rfl, rfl⟩
  · cases h
theorem g_le : OpG X (compareOp .LtE) gLe := opg_cmp op_le fun S d e z h => by
  unfold gLe at h
  split at h
  · cases h; exact ⟨_, _, rfl, rfl, rfl⟩
  · cases h
theorem g_gt : OpG X (compareOp .Gt) gGt := opg_cmp op_gt fun S d e z h => by
  unfold gGt at h
  split at h
  · cases h; exact ⟨_, _, rfl, rfl, rfl⟩
  · cases h
theorem g_ge : OpG X (compareOp .GtE) gGe := opg_cmp op_ge fun S d e z h => by
  unfold gGe at h
  split at h
  · cases h; exact ⟨_, _, rfl, rfl, rfl⟩
  · cases h
theorem u_neg : OkU X (rU fun i => .int (-i)) gNeg := by
  intro α F H S x d z Q hr hx hz q
  unfold gNeg at hz
  split at hz
  · cases hz; cases hx
    have an : α ++ [] = α := List.append_nil α
    exact ⟨_, rfl, q _ H [] F (by rw [an]; exact hr) Stp.refl (.int _)⟩
  · cases hz
theorem pd_neg (ha : PD X W a ra) : PD X W (.UnaryOp .USub a pos) (rUn gNeg ra) := pd_un un_neg u_neg ha
/-! ### ==, != -/
mutual
theorem DV.dp {v : V} : ∀ {d : D} {x : PyData}, DV wd K mg F α v d → toPy S d = some x → Sub F H → Dp K H v x
  | _, _, .non, e, _ => by cases e; exact .non
  | _, _, .bl b, e, _ => by cases e; exact .bl b
  | _, _, .int i, e, _ => by cases e; exact .int i
  | _, _, .str y, e, _ => by cases e; exact .str y
  | _, _, .tup h t, e, s => by
    rename_i ds
    unfold toPy at e
    cases q : toPys S ds with
    | none => rw [q] at e; cases e
    | some ys => rw [q] at e; cases e; exact .tup (s.sqT h.1) (DVs.dp t q s)
  | _, _, .lst h t, e, s => by
    rename_i ds
    unfold toPy at e
    cases q : toPys S ds with
    | none => rw [q] at e; cases e
    | some ys => rw [q] at e; cases e; exact .lst (s.sqL h) (DVs.dp t q s)
  | _, _, .tux _ _, e, _ => by cases e
  | _, _, .ptr _, e, _ => by cases e
  | _, _, .fn _, e, _ => by cases e
  | _, _, .ty _, e, _ => by cases e
theorem DVs.dp {vs : List V} : ∀ {ds : List D} {xs : List PyData}, DVs wd K mg F α vs ds → toPys S ds = some xs → Sub F H → DpAll K H vs xs
  | _, _, .nil, e, _ => by cases e; exact .nil
  | _, _, .cons h t, e, s => by
    rename_i d _ ds
    unfold toPys at e
    cases q1 : toPy S d with
    | none => rw [q1] at e; cases e
    | some x =>
      cases q2 : toPys S ds with
      | none => rw [q1, q2] at e; cases e
      | some xs => rw [q1, q2] at e; cases e; exact .cons (DV.dp h q1 s) (DVs.dp t q2 s)
end
theorem Rel.dp (hr : Rel wd K mg α F H S) {v : V} {d : D} {x : PyData} (h : DV wd K mg F α v d) (e : toPy S (deref S d) = some x) : Dp K H v x := by
  have s := hr.see h
  generalize deref S d = dd at e s
  cases s with
  | «at» h _ => exact h.dp e hr.sub
  | dead => cases e
  | lst q t =>
    rename_i ds
    unfold toPy at e
    cases q2 : toPys S ds with
    | none => rw [q2] at e; cases e
    | some ys => rw [q2] at e; cases e; exact .lst (SqL.of q) (t.dp q2 hr.sub)
  | dct _ _ _ => cases e
  | dcn _ _ => cases e
theorem Rel.eqD (hr : Rel wd K mg α F H S) {v u : V} {d e : D} {k : Bool} (h1 : DV wd K mg F α v d) (h2 : DV wd K mg F α u e) (q : DL.eqD S d e = some k) : ∃ x y, Dp K H v x ∧ Dp K H u y ∧ SeqAt.shaped x = true ∧ SeqAt.shaped y = true ∧ k = PyData.eqv x y := by
  unfold DL.eqD at q
  split at q
  · rename_i x y e1 e2
    split at q
    · rename_i hc
      rw [Bool.and_eq_true] at hc
      cases q
      exact ⟨x, y, hr.dp h1 e1, hr.dp h2 e2, hc.1, hc.2, rfl⟩
    · cases q
  · cases q
theorem g_eq (hu : X.A.units + 64 < cLine) : OpG X (compareOp .Eq) gEq := by
  refine ⟨_, op_eqD hu, fun α F H S x y d e z Q hr hx hy hz q => ?_⟩
  unfold gEq at hz
  cases q1 : DL.eqD S d e with
  | none => rw [q1] at hz; cases hz
  | some k =>
    rw [q1] at hz; cases hz
    obtain ⟨x', y', a1, a2, a3, a4, rfl⟩ := hr.eqD hx hy q1
    have an : α ++ [] = α := List.append_nil α
    exact ⟨x', y', a1, a2, a3, a4, q _ H [] F (by rw [an]; exact hr) Stp.refl (.bl _)⟩
theorem g_ne (hu : X.A.units + 64 < cLine) : OpG X (compareOp .NotEq) gNe := by
  refine ⟨_, op_neD hu, fun α F H S x y d e z Q hr hx hy hz q => ?_⟩
  unfold gNe at hz
  cases q1 : DL.eqD S d e with
  | none => rw [q1] at hz; cases hz
  | some k =>
    rw [q1] at hz; cases hz
    obtain ⟨x', y', a1, a2, a3, a4, rfl⟩ := hr.eqD hx hy q1
    have an : α ++ [] = α := List.append_nil α
    exact ⟨x', y', a1, a2, a3, a4, q _ H [] F (by rw [an]; exact hr) Stp.refl (.bl _)⟩
/-! ### is -/
theorem g_is : OpG X (compareOp .Is) gIs := by
  refine ⟨_, op_isN.or op_isBl, fun α F H S x y d e z Q hr hx hy hz q => ?_⟩
  have an : α ++ [] = α := List.append_nil α
  have fin : ∀ k, z = .bl k → Q (.bl k) H := fun k ek => by subst ek; exact q _ H [] F (by rw [an]; exact hr) Stp.refl (.bl _)
  unfold gIs at hz
  split at hz
  · cases hy
    refine .inl ⟨rfl, fin _ ?_⟩
    cases hx <;> cases hz <;> rfl
  · cases hy
    split at hz
    · cases hx
      cases hz
      exact .inr ⟨_, _, rfl, rfl, fin _ rfl⟩
    · cases hz
  · cases hz
theorem g_isN : OpG X (compareOp .IsNot) gIsN := by
  refine ⟨_, op_notN.or op_notBl, fun α F H S x y d e z Q hr hx hy hz q => ?_⟩
  have an : α ++ [] = α := List.append_nil α
  have fin : ∀ k, z = .bl k → Q (.bl k) H := fun k ek => by subst ek; exact q _ H [] F (by rw [an]; exact hr) Stp.refl (.bl _)
  unfold gIsN at hz
  split at hz
  · rename_i k q1
    cases hz
    unfold gIs at q1
    split at q1
    · cases hy
      refine .inl ⟨rfl, fin _ ?_⟩
      cases hx <;> cases q1 <;> rfl
    · cases hy
      split at q1
      · cases hx
        cases q1
        exact .inr ⟨_, _, rfl, rfl, fin _ rfl⟩
      · cases q1
    · cases q1
  · cases hz
end
end DL

set_option Elab.async false
set_option linter.all false
set_option maxRecDepth 100000
set_option maxHeartbeats 4000000
set_option autoImplicit false
/-! Data layer, eighth part: built-in functions, methods of texts, items, slices. -/
namespace DL
open PySem PySem.Spec PyProof.Rows L2

def tyName (S : Sto) (d : D) : Option String := match deref S d with
  | .non => some "NoneType"
  | .bl _ => some "bool"
  | .int _ => some "int"
  | .str _ => some "str"
  | .tup _ => some "tuple"
  | .lst _ => some "list"
  | .dct _ => some "dict"
  | _ => none
def gIsi : Sto → List D → Option D := fun S ds => match ds with
  | [d, .ty T] => (tyName S d).bind fun t => (kitB t T).map .bl
  | _ => none
def gLen : Sto → List D → Option D := fun S ds => match ds with
  | [d] => (match deref S d with
    | .str y => if y.length ≤ sizeLine then some (.int y.length) else none
    | .tup xs => some (.int xs.length)
    | .lst xs => some (.int xs.length)
    | _ => none)
  | _ => none
def gAbs : Sto → List D → Option D := fun _ ds => match ds with
  | [.int i] => some (.int (if i < 0 then -i else i))
  | _ => none
def gInt : Sto → List D → Option D := fun _ ds => match ds with
  | [.int i] => some (.int i)
  | [.bl k] => some (.int (if k then 1 else 0))
  | [.str a] => (match intText? a with
    | some n => if a.length ≤ 640 then some (.int n) else none
    | none => none)
  | _ => none
def gStr : Sto → List D → Option D := fun _ ds => match ds with
  | [.int i] => if i.natAbs.log2 < 1920 then some (.str (toString i)) else none
  | [.str a] => some (.str a)
  | _ => none
def asBls : List D → Option (List Bool)
  | [] => some []
  | .bl b :: r => (asBls r).map (b :: ·)
  | _ => none
def asInts : List D → Option (List Int)
  | [] => some []
  | .int b :: r => (asInts r).map (b :: ·)
  | _ => none
def asStrs : List D → Option (List Str)
  | [] => some []
  | .str b :: r => (asStrs r).map (b :: ·)
  | _ => none
def gAll : Sto → List D → Option D := fun S ds => match ds with
  | [d] => (match deref S d with
    | .lst xs => (asBls xs).map fun bs => .bl (bs.all id)
    | _ => none)
  | _ => none
def gAny : Sto → List D → Option D := fun S ds => match ds with
  | [d] => (match deref S d with
    | .lst xs => (asBls xs).map fun bs => .bl (bs.any id)
    | _ => none)
  | _ => none
def gSum : Sto → List D → Option D := fun S ds => match ds with
  | [d] => (match deref S d with
    | .lst xs => (asInts xs).map fun bs => .int bs.sum
    | _ => none)
  | _ => none
def toPyR (S : Sto) : D → Option PyData
  | .ptr k => (match S.getD k .non with
    | .dct [] => some (.dict [])
    | _ => toPy S (deref S (.ptr k)))
  | d => toPy S d
def gRepr : Sto → List D → Option D := fun S ds => match ds with
  | [d] => (match toPyR S d with
    | some x => if x.showable && decide (x.depth ≤ 64) && decide (x.shown.length ≤ sizeLine) then some (.str x.shown) else none
    | none => none)
  | _ => none

section
variable {X : Cx} {W : WX} {a b c e : Expr} {es rest : List Expr} {ra rb rc : RE} {ba bb : RB} {rs : RA} {pos p : Pos} {wd : World} {K : Fg} {mg : Str → Option Value} {α β : List Addr} {F F1 H H1 : Hp} {S : Sto}
theorem asBls_eq : ∀ {xs : List D} {bs : List Bool}, asBls xs = some bs → xs = bs.map .bl
  | [], _, h => by cases h; rfl
  | .bl b :: r, _, h => by
    unfold asBls at h
    cases q : asBls r with
    | none => rw [q] at h; cases h
    | some ys => rw [q] at h; cases h; rw [asBls_eq q]; rfl
theorem asInts_eq : ∀ {xs : List D} {bs : List Int}, asInts xs = some bs → xs = bs.map .int
  | [], _, h => by cases h; rfl
  | .int b :: r, _, h => by
    unfold asInts at h
    cases q : asInts r with
    | none => rw [q] at h; cases h
    | some ys => rw [q] at h; cases h; rw [asInts_eq q]; rfl
theorem asStrs_eq : ∀ {xs : List D} {bs : List Str}, asStrs xs = some bs → xs = bs.map .str
  | [], _, h => by cases h; rfl
  | .str b :: r, _, h => by
    unfold asStrs at h
    cases q : asStrs r with
    | none => rw [q] at h; cases h
    | some ys => rw [q] at h; cases h; rw [asStrs_eq q]; rfl
/-- the end of a rule that changes nothing -/
theorem fin_now {v : V} {z : D} {Q : VK} (hr : Rel wd K mg α F H S) (hv : DV wd K mg F α v z) (q : ∀ v H' β F', Rel wd K mg (α ++ β) F' H' S → Stp α F H β F' H' → DV wd K mg F' (α ++ β) v z → Q v H') : Q v H := by
  have an : α ++ [] = α := List.append_nil α
  exact q v H [] F (by rw [an]; exact hr) Stp.refl (by rw [an]; exact hv)
theorem pd_ty {x : Str} {n : String} (hm : X.mg x = none) (hg : Gl X x := by rfl) (hv : bootBuiltins x = some (.type n) := by decide +kernel) (hn : x ≠ "__name__" := by decide) (hd : (x == ("__debug__" : Str)) = false := by decide) : PD X W (.Name x pos) (rC (.ty n)) :=
  pd_c (v := .ty n) (pe_bltn hg hm hv rfl hn hd) fun _ _ => .ty n
theorem Rel.tyX (hr : Rel wd K mg α F H S) {v : V} {d : D} {t : String} (h : DV wd K mg F α v d) (e : tyName S d = some t) : TyX K H v (.type t) := by
  have s := hr.see h
  unfold tyName at e
  generalize deref S d = dd at e s
  cases s with
  | «at» h hp =>
    cases h with
    | non => cases e; exact .base .non
    | bl b => cases e; exact .base (.bl b)
    | int i => cases e; exact .base (.int i)
    | str x => cases e; exact .base (.str x)
    | tup q t =>
      cases e
      rcases hr.sub.sqT q.1 with (q | ⟨o, q⟩) | ⟨o, its, n, q, c, _⟩
      · exact .base (.tup q)
      · exact .fTuple q
      · exact .kTuple q c
    | lst q t =>
      cases e
      rcases hr.sub.sqL q with (q | ⟨o, q⟩) | ⟨o, its, n, q, c, _⟩
      · exact .base (.lst q)
      · exact .base (.frz q)
      · exact .kList q c
    | tux q t => cases e
    | ptr _ => exact absurd rfl (hp _)
    | fn _ => cases e
    | ty _ => cases e
  | dead => cases e
  | lst q t => cases e; exact .base (.lst q)
  | dct q k t =>
    cases e
    rcases q with q | ⟨o, q⟩
    · exact .base (.dK q)
    · exact .fDict q
  | dcn _ _ => cases e
theorem b_isi : BiG X (.builtin "isinstance") gIsi := by
  refine ⟨_, call_isi, fun α F H S xs ds z Q hr hv hz q => ?_⟩
  unfold gIsi at hz
  split at hz
  · rename_i d T
    cases hv with
    | cons h1 h2 =>
      cases h2 with
      | cons h2 h3 =>
        cases h3
        cases h2
        rename_i v
        cases e1 : tyName S d with
        | none => rw [e1] at hz; cases hz
        | some t =>
          rw [e1] at hz
          cases e2 : kitB t T with
          | none => rw [Option.bind_some, e2] at hz; cases hz
          | some k =>
            rw [Option.bind_some, e2] at hz
            cases hz
            exact ⟨v, .ty T, .type t, .type T, k, rfl, .ty T, hr.tyX h1 e1, kit_ty e2, fin_now hr (.bl _) q⟩
  · cases hz
theorem b_len : BiG X (.builtin "len") gLen := by
  refine ⟨_, call_len, fun α F H S xs ds z Q hr hv hz q => ?_⟩
  unfold gLen at hz
  split at hz
  · rename_i d
    cases hv with
    | cons h1 h2 =>
      cases h2
      rename_i v
      split at hz
      · rename_i y e
        split at hz
        · rename_i hl
          cases hz
          have := hr.viewS h1 e
          subst this
          exact ⟨_, y.length, rfl, ⟨hl, rfl⟩, fin_now hr (.int _) q⟩
        · cases hz
      · rename_i ys e
        cases hz
        obtain ⟨a, us, rfl, h3, h4⟩ := hr.viewT h1 e
        exact ⟨_, us.length, rfl, .inr ⟨us, h3, rfl⟩, by rw [h4.length]; exact fin_now hr (.int _) q⟩
      · rename_i ys e
        cases hz
        obtain ⟨a, us, rfl, h3, h4⟩ := hr.viewL h1 e
        exact ⟨_, us.length, rfl, .inl ⟨us, h3, rfl⟩, by rw [h4.length]; exact fin_now hr (.int _) q⟩
      · cases hz
  · cases hz
theorem b_abs : BiG X (.builtin "abs") gAbs := by
  refine ⟨_, call_abs, fun α F H S xs ds z Q hr hv hz q => ?_⟩
  unfold gAbs at hz
  split at hz
  · cases hz
    cases hv with
    | cons h1 h2 => cases h2; cases h1; exact ⟨_, rfl, fin_now hr (.int _) q⟩
  · cases hz
theorem b_int : BiG X (.type "int") gInt := by
  refine ⟨_, call_int1.or call_int_str, fun α F H S xs ds z Q hr hv hz q => ?_⟩
  unfold gInt at hz
  split at hz
  · cases hz
    cases hv with
    | cons h1 h2 => cases h2; cases h1; exact .inl (.inl ⟨_, rfl, fin_now hr (.int _) q⟩)
  · cases hz
    cases hv with
    | cons h1 h2 => cases h2; cases h1; exact .inl (.inr ⟨_, rfl, fin_now hr (.int _) q⟩)
  · cases hv with
    | cons h1 h2 =>
      cases h2; cases h1
      split at hz
      · rename_i n e
        split at hz
        · rename_i hl
          cases hz
          exact .inr ⟨_, n, rfl, e, hl, fin_now hr (.int _) q⟩
        · cases hz
      · cases hz
  · cases hz
theorem b_str : BiG X (.type "str") gStr := by
  refine ⟨_, call_str_int.or SkE.call_str_str, fun α F H S xs ds z Q hr hv hz q => ?_⟩
  unfold gStr at hz
  split at hz
  · split at hz
    · rename_i hl
      cases hz
      cases hv with
      | cons h1 h2 => cases h2; cases h1; exact .inl ⟨_, rfl, hl, fin_now hr (.str _) q⟩
    · cases hz
  · cases hz
    cases hv with
    | cons h1 h2 => cases h2; cases h1; exact .inr ⟨_, rfl, fin_now hr (.str _) q⟩
  · cases hz
theorem b_all (hc : X.calm = true) : BiG X (.builtin "all") gAll := by
  refine ⟨_, cr_all hc, fun α F H S xs ds z Q hr hv hz q => ?_⟩
  unfold gAll at hz
  split at hz
  · rename_i d
    cases hv with
    | cons h1 h2 =>
      cases h2
      split at hz
      · rename_i ys e
        cases e2 : asBls ys with
        | none => rw [e2] at hz; cases hz
        | some bs =>
          rw [e2] at hz; cases hz
          obtain ⟨a, us, rfl, h3, h4⟩ := hr.viewL h1 e
          rw [asBls_eq e2] at h4
          rw [h4.bls] at h3
          exact ⟨a, bs, rfl, h3, fin_now hr (.bl _) q⟩
      · cases hz
  · cases hz
theorem b_any (hc : X.calm = true) : BiG X (.builtin "any") gAny := by
  refine ⟨_, cr_any hc, fun α F H S xs ds z Q hr hv hz q => ?_⟩
  unfold gAny at hz
  split at hz
  · rename_i d
    cases hv with
    | cons h1 h2 =>
      cases h2
      split at hz
      · rename_i ys e
        cases e2 : asBls ys with
        | none => rw [e2] at hz; cases hz
        | some bs =>
          rw [e2] at hz; cases hz
          obtain ⟨a, us, rfl, h3, h4⟩ := hr.viewL h1 e
          rw [asBls_eq e2] at h4
          rw [h4.bls] at h3
          exact ⟨a, bs, rfl, h3, fin_now hr (.bl _) q⟩
      · cases hz
  · cases hz
theorem b_sum (hc : X.calm = true) : BiG X (.builtin "sum") gSum := by
  refine ⟨_, cr_sum hc, fun α F H S xs ds z Q hr hv hz q => ?_⟩
  unfold gSum at hz
  split at hz
  · rename_i d
    cases hv with
    | cons h1 h2 =>
      cases h2
      split at hz
      · rename_i ys e
        cases e2 : asInts ys with
        | none => rw [e2] at hz; cases hz
        | some bs =>
          rw [e2] at hz; cases hz
          obtain ⟨a, us, rfl, h3, h4⟩ := hr.viewL h1 e
          rw [asInts_eq e2] at h4
          rw [h4.ints] at h3
          exact ⟨a, bs, rfl, h3, fin_now hr (.int _) q⟩
      · cases hz
  · cases hz
end
end DL

set_option Elab.async false
set_option linter.all false
set_option maxRecDepth 100000
set_option maxHeartbeats 4000000
set_option autoImplicit false
/-! Data layer, ninth part: repr, methods, texts, items, slices, lists that are made. -/
namespace DL
open PySem PySem.Spec PyProof.Rows L2

section
variable {X : Cx} {W : WX} {a b c e : Expr} {es rest : List Expr} {ra rb rc : RE} {ba bb : RB} {rs : RA} {pos p : Pos} {wd : World} {K : Fg} {mg : Str → Option Value} {α β : List Addr} {F F1 H H1 : Hp} {S : Sto}
theorem op_mulS : OpR X (binaryOp .Mult) (fun x y H Q => ∃ i j, x = .str i ∧ y = .int j ∧ MulOk i j ∧ Q (.str (Txt.mul i j)) H) := by
  intro pins s σ H x y v u Q I rx ry h
  obtain ⟨i, j, rfl, rfl, hk, q⟩ := h
  obtain ⟨t, rfl⟩ := rx
  obtain ⟨t', rfl⟩ := ry
  exact SB.mul hk fun t' k => ⟨.str _, H, I.tok _, ⟨_, rfl⟩, q⟩
instance (x : Str) (n : Int) : Decidable (MulOk x n) := by unfold MulOk; infer_instance
def gMulS : Sto → D → D → Option D := fun _ d e => match d, e with
  | .str x, .int n => if MulOk x n then some (.str (Txt.mul x n)) else none
  | _, _ => none
theorem g_mulS : OpG X (binaryOp .Mult) gMulS := by
  refine ⟨_, op_mulS, fun α F H S x y d e z Q hr hx hy hz q => ?_⟩
  unfold gMulS at hz
  split at hz
  · split at hz
    · rename_i hc
      cases hz; cases hx; cases hy
      exact ⟨_, _, rfl, rfl, hc, fin_now hr (.str _) q⟩
    · cases hz
  · cases hz
theorem g_add : OpG X (binaryOp .Add) gAdd := by
  refine ⟨_, (op_add.or op_add_str).or op_catP, fun α F H S x y d e z Q hr hx hy hz q => ?_⟩
  unfold gAdd at hz
  split at hz
  · rename_i e1 e2
    cases hz
    have := hr.viewI hx e1
    have := hr.viewI hy e2
    subst x; subst y
    exact .inl (.inl ⟨_, _, rfl, rfl, fin_now hr (.int _) q⟩)
  · rename_i e1 e2
    split at hz
    · rename_i hl
      cases hz
      have := hr.viewS hx e1
      have := hr.viewS hy e2
      subst x; subst y
      exact .inl (.inr ⟨_, _, rfl, rfl, hl, fin_now hr (.str _) q⟩)
    · cases hz
  · rename_i xs ys e1 e2
    split at hz
    · rename_i hl
      cases hz
      obtain ⟨a, us, rfl, a1, a2⟩ := hr.viewT hx e1
      obtain ⟨b, ws, rfl, b1, b2⟩ := hr.viewT hy e2
      refine .inr ⟨a, b, us, ws, rfl, rfl, a1, b1, by rw [a2.length, b2.length]; exact hl, fun en => ?_, fun _ en => ?_, fun n1 n2 p hp o ho => ?_⟩
      · subst en
        have en : xs = [] := by cases a2; rfl
        subst en
        have sy := hr.see hy
        rw [e2] at sy
        cases sy with
        | «at» h _ => exact fin_now hr h q
      · subst en
        have en : ys = [] := by cases b2; rfl
        subst en
        rw [List.append_nil] at q
        have sx := hr.see hx
        rw [e1] at sx
        cases sx with
        | «at» h _ => exact fin_now hr h q
      · obtain ⟨c1, c2, c3⟩ := hr.tup (a2.append b2) hp ho
        exact q _ _ _ _ c1 c2 c3
    · cases hz
  · cases hz
mutual
theorem dp_noD {v : V} : ∀ {d : PyData}, Dp K H v d → d.hasDict = false
  | _, .non => by simp [PyData.hasDict]
  | _, .bl _ => by simp [PyData.hasDict]
  | _, .int _ => by simp [PyData.hasDict]
  | _, .str _ => by simp [PyData.hasDict]
  | _, .lst _ t => by rw [PyData.hasDict]; exact dpA_noD t
  | _, .tup _ t => by rw [PyData.hasDict]; exact dpA_noD t
theorem dpA_noD {vs : List V} : ∀ {ds : List PyData}, DpAll K H vs ds → PyData.hasDictAll ds = false
  | _, .nil => by simp [PyData.hasDictAll]
  | _, .cons h t => by rw [PyData.hasDictAll, dp_noD h, dpA_noD t]; rfl
end
/-! ### repr -/
theorem repr_ok (hG : X.A.guards = some []) (hu : X.A.units + 80 < cLine) : CallR X (.builtin "repr") (fun xs H Q => ∃ x d, xs = [x] ∧ (Dp X.K H x d ∨ (d = .dict [] ∧ ∃ a, x = .ref a ∧ H a = some (.dK []))) ∧ d.showable = true ∧ d.depth ≤ 64 ∧ d.shown.length ≤ sizeLine ∧ Q (.str d.shown) H) := by
  intro pins s σ H xs us Q I rv h
  obtain ⟨x, d, rfl, hd, h1, h2, h3, q⟩ := h
  obtain ⟨u, rfl, rx⟩ := vals1 rv
  have done : ∀ h' t tk, (∀ b o, s.heap.get? b = some o → h'.get? b = some o) → EP X pins σ Q (.str d.shown t) { s with heap := h', toks := tk } := fun h' t tk k => ⟨.str _, H, I.kept (t' := tk) k, ⟨_, rfl⟩, q⟩
  rcases hd with hd | ⟨rfl, a, rfl, ha⟩
  · obtain ⟨as, r⟩ := Dp.reads I d x u hd rx
    have noD : d.hasDict = false := dp_noD hd
    cases hd with
    | non => cases rx; exact P.repr_of_none (done s.heap _ _ fun _ _ e => e)
    | bl b => cases rx; exact P.repr_of_bool (done s.heap _ _ fun _ _ e => e)
    | int i => obtain ⟨t, rfl⟩ := rx; exact P.repr_of_int (of_decide_eq_true (by simpa [PyData.showable] using h1)) (done s.heap _ _ fun _ _ e => e)
    | str z => obtain ⟨t, rfl⟩ := rx; exact P.repr_of_str (by simpa [PyData.shown] using done s.heap s.toks (s.toks + 1) fun _ _ e => e) (by simpa [PyData.shown] using h3)
    | lst _ _ => cases rx; exact repr_of_reads' r h1 (fun z => by rw [noD] at z; cases z) hG (by omega) (fun _ _ e => e) (fun h' u tk k => done h' u tk k) h3
    | tup _ _ => cases rx; exact repr_of_reads' r h1 (fun z => by rw [noD] at z; cases z) hG (by omega) (fun _ _ e => e) (fun h' u tk k => done h' u tk k) h3
  · cases rx
    obtain ⟨_, hs, vs, hk, o, es, ep, e1, e2, e3, hdd⟩ := I.hok a _ ha
    cases hk
    have e5 : es.toList = [] := by
      have h5 := hdd.2.1
      cases h6 : es.toList with
      | nil => rfl
      | cons _ _ => rw [h6] at h5; cases h5
    have r : Reads s.heap (.ref a) (.dict []) (a :: [] ++ []) := .dict e1 e2.1 e3 (by rw [e5]; exact .nil) (by rw [e5]; exact .nil)
    exact repr_of_reads' r h1 (fun _ => by simpa using (beq_eq_false_iff_ne.mp hs).symm) hG (by omega) (fun _ _ e => e) (fun h' u tk k => done h' u tk k) h3
theorem b_repr (hG : X.A.guards = some []) (hu : X.A.units + 80 < cLine) : BiG X (.builtin "repr") gRepr := by
  refine ⟨_, repr_ok hG hu, fun α F H S xs ds z Q hr hv hz q => ?_⟩
  unfold gRepr at hz
  split at hz
  · rename_i d
    cases hv with
    | cons h1 h2 =>
      cases h2
      split at hz
      · rename_i x e
        split at hz
        · rename_i hc
          rw [Bool.and_eq_true, Bool.and_eq_true] at hc
          cases hz
          refine ⟨_, x, rfl, ?_, hc.1.1, of_decide_eq_true hc.1.2, of_decide_eq_true hc.2, fin_now hr (.str _) q⟩
          cases d with
          | ptr k =>
            unfold toPyR at e
            dsimp only at e
            split at e
            · rename_i e6
              cases e
              cases h1 with
              | ptr ha =>
                obtain ⟨_, o, _⟩ := hr.owned ha
                rw [e6] at o
                obtain ⟨ws, a1, a2, a3⟩ := o
                have : ws = [] := by have := a2.length; simpa using this
                subst this
                exact .inr ⟨rfl, _, rfl, a1⟩
            · exact .inl (hr.dp h1 e)
          | _ => exact .inl (hr.dp h1 e)
        · cases hz
      · cases hz
  · cases hz
end
end DL

set_option Elab.async false
set_option linter.all false
set_option maxRecDepth 100000
set_option maxHeartbeats 4000000
set_option autoImplicit false
/-! Data layer, tenth part: methods, lists that are made, items, slices. -/
namespace DL
open PySem PySem.Spec PyProof.Rows L2

/-! ### what they come to -/
/-- the type by whose method it goes -/
def isTy (T : String) (S : Sto) (d : D) : Bool := match deref S d with
  | .str _ => T == "str"
  | .lst _ => T == "list"
  | .dct _ => T == "dict"
  | _ => false
/-- a method: the receiver's type is looked at ahead of the arguments -/
def rMeth (T : String) (g : Sto → D → List D → Option (D × Sto)) (a : RE) (as : RA) : RE := fun δ S => (a δ S).bind fun x S1 => if isTy T S1 x then (as δ S1).bind fun ys S2 => match g S2 x ys with
  | some (z, S3) => .ok z S3
  | none => .stuck else .stuck
def pureM (g : Sto → D → List D → Option D) : Sto → D → List D → Option (D × Sto) := fun S d ds => (g S d ds).map fun z => (z, S)
def gStarts : Sto → D → List D → Option D := fun _ d ds => match d, ds with
  | .str a, [.str b] => some (.bl (Txt.startswith a b))
  | _, _ => none
def gIndexS : Sto → D → List D → Option D := fun _ d ds => match d, ds with
  | .str a, [.str b] => (match Builtin.Str.occurrences a b 0 a.length 1 with
    | k :: _ => some (.int (k : Nat))
    | [] => none)
  | _, _ => none
def gJoin : Sto → D → List D → Option D := fun S d ds => match d, ds with
  | .str a, [e] => (match deref S e with
    | .lst xs => (match asStrs xs with
      | some ys => if (ys.map (·.length)).sum + ys.length * a.length ≤ 16777216 then some (.str (Txt.join a ys)) else none
      | none => none)
    | _ => none)
  | _, _ => none
def mAppend : Sto → D → List D → Option (D × Sto) := fun S d ds => match d, ds with
  | .ptr k, [y] => (match S[k]? with
    | some (.lst xs) => if xs.length < sizeLine then some (.non, S.set k (.lst (xs ++ [y]))) else none
    | _ => none)
  | _, _ => none
def mInsert : Sto → D → List D → Option (D × Sto) := fun S d ds => match d, ds with
  | .ptr k, [.int i, y] => (match S[k]? with
    | some (.lst xs) => if xs.length < sizeLine ∧ 0 ≤ i ∧ i < 2 ^ 63 then some (.non, S.set k (.lst (xs.take i.toNat ++ [y] ++ xs.drop i.toNat))) else none
    | _ => none)
  | _, _ => none
def mPop : Sto → D → List D → Option (D × Sto) := fun S d ds => match d, ds with
  | .ptr k, [] => (match S[k]? with
    | some (.lst xs) => (match xs[xs.length - 1]? with
      | some y => some (y, S.set k (.lst xs.dropLast))
      | none => none)
    | _ => none)
  | _, _ => none
/-- an item of a list, a tuple, a text -/
def gIx : Sto → D → D → Option D := fun S d e => match deref S d, e with
  | .lst xs, .int i => atI xs i
  | .tup xs, .int i => atI xs i
  | .str z, .int i => if z.length ≤ sizeLine then (atI z.cps.toList i).map fun c => .str ⟨#[c]⟩ else none
  | _, _ => none
/-- a part: from, to -/
def cutD {A : Type} (xs : List A) (lo hi : Option Int) : List A := (xs.drop (HT.sIx xs.length 0 lo)).take (HT.sIx xs.length xs.length hi - HT.sIx xs.length 0 lo)
abbrev RO := Sl → Sto → Res (Option Int)
def oNone : RO := fun _ S => .ok none S
def oSome (a : RE) : RO := fun δ S => (a δ S).bind fun x S1 => match x with
  | .int i => .ok (some i) S1
  | _ => .stuck
def rCut (a : RE) (l h : RO) : RE := fun δ S => (a δ S).bind fun x S1 => (l δ S1).bind fun i S2 => (h δ S2).bind fun j S3 => match deref S3 x with
  | .lst xs => .ok (.lst (cutD xs i j)) S3
  | .tup xs => .ok (.tup (cutD xs i j)) S3
  | .str z => if z.length ≤ sizeLine then .ok (.str (cutS z i j)) S3 else .stuck
  | _ => .stuck

section
variable {X : Cx} {W : WX} {a b c e : Expr} {es rest : List Expr} {ra rb rc : RE} {ba bb : RB} {rs : RA} {pos p : Pos} {wd : World} {K : Fg} {mg : Str → Option Value} {α β : List Addr} {F F1 H H1 : Hp} {S : Sto}
theorem isTy_ok (hr : Rel wd K mg α F H S) {v : V} {d : D} {T : String} (h : DV wd K mg F α v d) (e : isTy T S d = true) (hT : T ≠ "dict") : tyV K T v H := by
  have s := hr.see h
  unfold isTy at e
  generalize deref S d = dd at e s
  cases s with
  | «at» h hp =>
    cases h with
    | str x => exact beq_iff_eq.mp e
    | lst q t => exact .inl ⟨beq_iff_eq.mp e, _, hr.sub.sqL q⟩
    | ptr _ => exact absurd rfl (hp _)
    | _ => cases e
  | dead => cases e
  | lst q t => exact .inl ⟨beq_iff_eq.mp e, _, SqL.of q⟩
  | dct q k t => exact absurd (beq_iff_eq.mp e) hT
  | dcn q t => cases e
def OkM (X : Cx) (r : V → List V → Hp → VK → Prop) (g : Sto → D → List D → Option (D × Sto)) : Prop := ∀ α F H S (x : V) (xs : List V) (d : D) (ds : List D) (z : D) (S' : Sto) (Q : VK), Rel X.w X.K X.mg α F H S → DV X.w X.K X.mg F α x d → DVs X.w X.K X.mg F α xs ds → g S d ds = some (z, S') →
  (∀ v H' β F', Rel X.w X.K X.mg (α ++ β) F' H' S' → Stp α F H β F' H' → DV X.w X.K X.mg F' (α ++ β) v z → Q v H') → r x xs H Q
structure MdG (X : Cx) (id : String) (g : Sto → D → List D → Option (D × Sto)) : Prop where
  ex : ∃ r, MtR X id r ∧ OkM X r g
theorem pd_meth {o : Expr} {name : Str} {T id : String} {g : Sto → D → List D → Option (D × Sto)} {apos cpos : Pos} {ro : RE} (hm : MdG X id g) (pa : PlainAttrs T) (slot : Slot T name id) (hty : typeOf (.builtin id) = pure (.type "method_descriptor")) (ho : PD X W o ro) (ha : PDs X W (e :: es) rs) (hT : T ≠ "dict" := by decide)
    (hbase : attributeBase o name X.env (eval o X.env) = eval o X.env := by rfl)
    (hfew : ((backTo cpos (starEach (e :: es) X.env)).all (fun x => !x.1) && (backToKw cpos (keywordEach [] X.env)).all (fun x => x.1.isSome) && decide ((e :: es).length + ([] : List Keyword).length + (if ([] : List Keyword).isEmpty then 0 else 1) < 30)) = true := by rfl)
    (hline : (apos.endLine == cpos.line) = true := by rfl) (hs : starEach (e :: es) X.env = (false, eval e X.env) :: starEach es X.env := by rfl) (hplain : (backTo cpos (starEach es X.env)).any (·.1) = false := by rfl) :
    PD X W (.Call (.Attribute o name apos) (e :: es) [] cpos) (rMeth T g ro rs) := by
  obtain ⟨r, h1, h2⟩ := hm.ex
  obtain ⟨to, po, so⟩ := ho.ex
  obtain ⟨t, pt, st⟩ := ha.ex
  refine ⟨_, pe_bm pa slot hty h1 po pt hbase hfew hline hs hplain, fun α F σ H δ S Q hr hs h => ?_⟩
  refine so α F σ H δ S _ hr hs (wp.bind h fun d S1 _ x H1 β F1 r1 q1 v1 h1 => ?_)
  split at h1
  · rename_i ety
    refine ⟨isTy_ok r1 v1 ety hT, ?_⟩
    refine st (α ++ β) F1 σ H1 δ S1 _ r1 (hs.mono q1.sub) (wp.bind h1 fun ds S2 _ xs H2 γ F2 r2 q2 v2 h3 => ?_)
    cases eg : g S2 d ds with
    | none => rw [eg] at h3; exact h3.elim
    | some zs =>
      obtain ⟨z, S3⟩ := zs
      rw [eg] at h3
      exact h2 _ F2 H2 S2 x xs d ds z S3 Q r2 (v1.mono q2.sub) v2 eg fun v H' ε F' r3 s3 v3 => h3 v H' ε F' r3 s3 v3
  · exact h1.elim
theorem pd_meth0 {o : Expr} {name : Str} {T id : String} {g : Sto → D → List D → Option (D × Sto)} {apos cpos : Pos} {ro : RE} (hm : MdG X id g) (pa : PlainAttrs T) (slot : Slot T name id) (hty : typeOf (.builtin id) = pure (.type "method_descriptor")) (ho : PD X W o ro) (hT : T ≠ "dict" := by decide)
    (hbase : attributeBase o name X.env (eval o X.env) = eval o X.env := by rfl) (hline : (apos.endLine == cpos.line) = true := by rfl) : PD X W (.Call (.Attribute o name apos) [] [] cpos) (rMeth T g ro rNil) := by
  obtain ⟨r, h1, h2⟩ := hm.ex
  obtain ⟨to, po, so⟩ := ho.ex
  refine ⟨_, pe_bm0 pa slot hty h1 po hbase hline, fun α F σ H δ S Q hr hs h => ?_⟩
  refine so α F σ H δ S _ hr hs (wp.bind h fun d S1 _ x H1 β F1 r1 q1 v1 h1 => ?_)
  split at h1
  · rename_i ety
    refine ⟨isTy_ok r1 v1 ety hT, ?_⟩
    have h3 : wp X.w X.K X.mg (α ++ β) F1 H1 (relD X.w X.K X.mg) (match g S1 d [] with | some (z, S3) => .ok z S3 | none => .stuck) Q _ := h1
    cases eg : g S1 d [] with
    | none => rw [eg] at h3; exact h3.elim
    | some zs =>
      obtain ⟨z, S3⟩ := zs
      rw [eg] at h3
      exact h2 _ F1 H1 S1 x [] d [] z S3 Q r1 v1 .nil eg fun v H' ε F' r3 s3 v3 => h3 v H' ε F' r3 s3 v3
  · exact h1.elim
theorem mdg_pure {id : String} {r : V → List V → Hp → VK → Prop} {g : Sto → D → List D → Option D} (h : MtR X id r) (hk : ∀ α F H S (x : V) (xs : List V) (d : D) (ds : List D) (z : D) (Q : VK), Rel X.w X.K X.mg α F H S → DV X.w X.K X.mg F α x d → DVs X.w X.K X.mg F α xs ds → g S d ds = some z →
    (∀ v H' β F', Rel X.w X.K X.mg (α ++ β) F' H' S → Stp α F H β F' H' → DV X.w X.K X.mg F' (α ++ β) v z → Q v H') → r x xs H Q) : MdG X id (pureM g) := by
  refine ⟨r, h, fun α F H S x xs d ds z S' Q hr hx hv hz q => ?_⟩
  unfold pureM at hz
  cases e : g S d ds with
  | none => rw [e] at hz; cases hz
  | some y => rw [e] at hz; cases hz; exact hk α F H S x xs d ds z Q hr hx hv e q
theorem m_starts : MdG X "str.startswith" (pureM gStarts) := mdg_pure mt_startswith fun α F H S x xs d ds z Q hr hx hv hz q => by
  unfold gStarts at hz
  split at hz
  · cases hz; cases hx
    cases hv with
    | cons h1 h2 => cases h2; cases h1; exact ⟨_, _, rfl, rfl, fin_now hr (.bl _) q⟩
  · cases hz
theorem mt_indexF : MtR X "str.index" (fun x xs H Q => ∃ a b k r, x = .str a ∧ xs = [.str b] ∧ Builtin.Str.occurrences a b 0 a.length 1 = k :: r ∧ Q (.int (k : Nat)) H) := by
  intro pins s σ H x xs v us Q I rx rv h
  obtain ⟨a, b, k, r, rfl, rfl, e, q⟩ := h
  obtain ⟨t, rfl⟩ := rx
  obtain ⟨u, rfl, ru⟩ := vals1 rv
  obtain ⟨t', rfl⟩ := ru
  exact PySem.SC.index e ⟨.int (k : Nat), H, I.tok _, ⟨_, rfl⟩, q⟩
theorem m_indexS : MdG X "str.index" (pureM gIndexS) := mdg_pure mt_indexF fun α F H S x xs d ds z Q hr hx hv hz q => by
  unfold gIndexS at hz
  split at hz
  · split at hz
    · rename_i k r e
      cases hz; cases hx
      cases hv with
      | cons h1 h2 => cases h2; cases h1; exact ⟨_, _, k, r, rfl, rfl, e, fin_now hr (.int _) q⟩
    · cases hz
  · cases hz
theorem m_join : MdG X "str.join" (pureM gJoin) := mdg_pure mt_join fun α F H S x xs d ds z Q hr hx hv hz q => by
  unfold gJoin at hz
  split at hz
  · rename_i a e
    split at hz
    · rename_i ys e1
      split at hz
      · rename_i zs e2
        split at hz
        · rename_i hl
          cases hz; cases hx
          cases hv with
          | cons h1 h2 =>
            cases h2
            obtain ⟨l, us, rfl, a1, a2⟩ := hr.viewL h1 e1
            rw [asStrs_eq e2] at a2
            rw [a2.strs] at a1
            exact ⟨_, l, zs, rfl, rfl, .inl a1, hl, fin_now hr (.str _) q⟩
        · cases hz
      · cases hz
    · cases hz
  · cases hz
theorem getD_of {S : Sto} {k : Nat} {d : D} (h : S[k]? = some d) : S.getD k .non = d := by rw [List.getD_eq_getElem?_getD, h]; rfl
theorem m_append : MdG X "list.append" mAppend := by
  refine ⟨rAppend, mt_append, fun α F H S x xs d ds z S' Q hr hx hv hz q => ?_⟩
  unfold mAppend at hz
  split at hz
  · rename_i k y
    split at hz
    · rename_i zs e
      split at hz
      · rename_i hl
        cases hz
        cases hx with
        | ptr ha =>
          obtain ⟨o, _⟩ := hr.own k _ _ ha e
          obtain ⟨us, o1, o2⟩ := o
          cases hv with
          | cons h1 h2 =>
            cases h2
            obtain ⟨a1, a2⟩ := hr.setO (o := .lst (us ++ [_])) (d := .lst (zs ++ [y])) ha e rfl ⟨_, upd_same, o2.append (.cons h1 .nil)⟩
            exact ⟨_, us, _, rfl, rfl, o1, by rw [o2.length]; exact hl, q _ _ _ _ a1 a2 .non⟩
      · cases hz
    · cases hz
  · cases hz
theorem m_insert : MdG X "list.insert" mInsert := by
  refine ⟨_, mt_insert, fun α F H S x xs d ds z S' Q hr hx hv hz q => ?_⟩
  unfold mInsert at hz
  split at hz
  · rename_i k i y
    split at hz
    · rename_i zs e
      split at hz
      · rename_i hl
        cases hz
        cases hx with
        | ptr ha =>
          obtain ⟨o, _⟩ := hr.own k _ _ ha e
          obtain ⟨us, o1, o2⟩ := o
          cases hv with
          | cons h1 h2 =>
            cases h1
            cases h2 with
            | cons h2 h3 =>
              cases h3
              rename_i v
              obtain ⟨a1, a2⟩ := hr.setO (o := .lst (us.take i.toNat ++ [v] ++ us.drop i.toNat)) (d := .lst (zs.take i.toNat ++ [y] ++ zs.drop i.toNat)) ha e rfl ⟨_, upd_same, ((o2.take _).append (.cons h2 .nil)).append (o2.drop _)⟩
              exact ⟨_, us, i, v, rfl, rfl, o1, by rw [o2.length]; exact hl.1, hl.2.1, hl.2.2, q _ _ _ _ a1 a2 .non⟩
      · cases hz
    · cases hz
  · cases hz
theorem DVs.dropLast {vs : List V} {ds : List D} (h : DVs wd K mg F α vs ds) : DVs wd K mg F α vs.dropLast ds.dropLast := by
  rw [List.dropLast_eq_take, List.dropLast_eq_take, h.length]; exact h.take _
theorem m_pop : MdG X "list.pop" mPop := by
  refine ⟨L2.rPop, mt_pop, fun α F H S x xs d ds z S' Q hr hx hv hz q => ?_⟩
  unfold mPop at hz
  split at hz
  · rename_i k
    split at hz
    · rename_i zs e
      split at hz
      · rename_i y ey
        cases hz
        cases hx with
        | ptr ha =>
          obtain ⟨o, _⟩ := hr.own k _ _ ha e
          obtain ⟨us, o1, o2⟩ := o
          cases hv
          obtain ⟨v, e1, e2⟩ := o2.get ey
          obtain ⟨a1, a2⟩ := hr.setO (o := .lst us.dropLast) (d := .lst zs.dropLast) ha e rfl ⟨_, upd_same, o2.dropLast⟩
          exact ⟨_, us, v, rfl, rfl, o1, by rw [o2.length]; exact e1, q _ _ _ _ a1 a2 (e2.mono a2.sub)⟩
      · cases hz
    · cases hz
  · cases hz

/-! ### items -/
theorem atI_DV {xs : List D} {us : List V} {i : Int} {d : D} (h : DVs wd K mg F α us xs) (e : atI xs i = some d) : ∃ v, atI us i = some v ∧ DV wd K mg F α v d := by
  unfold atI at e ⊢
  rw [h.length]
  cases q : ixN xs.length i with
  | none => rw [q] at e; cases e
  | some j => rw [q] at e; exact h.get e
theorem pd_ix (ha : PD X W a ra) (hb : PD X W b rb) (hs : PlainIx b := by intro _ _; rfl) : PD X W (.Subscript a b pos) (rBin gIx ra rb) := by
  obtain ⟨ta, pa, sa⟩ := ha.ex
  obtain ⟨tb, pb, sb⟩ := hb.ex
  refine ⟨_, pe_ix ix_seq pa pb hs, sa.bin sb fun α F H S x y d e z Q hr hx hy hz q => ?_⟩
  unfold gIx at hz
  split at hz
  · rename_i xs i e1
    cases hy
    obtain ⟨l, us, rfl, a1, a2⟩ := hr.viewL hx e1
    obtain ⟨v, e3, e4⟩ := atI_DV a2 hz
    exact .inl ⟨l, us, i, v, rfl, rfl, a1, e3, fin_now hr e4 q⟩
  · rename_i xs i e1
    cases hy
    obtain ⟨l, us, rfl, a1, a2⟩ := hr.viewT hx e1
    obtain ⟨v, e3, e4⟩ := atI_DV a2 hz
    exact .inr (.inl ⟨l, us, i, v, rfl, rfl, a1, e3, fin_now hr e4 q⟩)
  · rename_i zz i e1
    split at hz
    · rename_i hl
      cases hy
      have := hr.viewS hx e1
      subst this
      cases e3 : atI zz.cps.toList i with
      | none => rw [e3] at hz; cases hz
      | some c => rw [e3] at hz; cases hz; exact .inr (.inr ⟨zz, i, c, rfl, rfl, hl, e3, fin_now hr (.str _) q⟩)
    · cases hz
  · cases hz
end
end DL

set_option Elab.async false
set_option linter.all false
set_option maxRecDepth 100000
set_option maxHeartbeats 4000000
set_option autoImplicit false
/-! Data layer, eleventh part: slices, what is walked, targets, lists that are made, dicts. -/
namespace DL
open PySem PySem.Spec PyProof.Rows L2

def gIn1 : Sto → D → D → Option D := fun S d e => match d, deref S e with
  | .str x, .str z => if x.length = 1 then some (.bl (decide (x.cps.getD 0 0 ∈ z.cps.toList))) else none
  | _, _ => none
def gNotIn1 : Sto → D → D → Option D := fun S d e => match gIn1 S d e with
  | some (.bl b) => some (.bl (!b))
  | _ => none
def flatD : D → Option V
  | .non => some .non
  | .bl b => some (.bl b)
  | .int i => some (.int i)
  | .str x => some (.str x)
  | _ => none
def flatDs : List D → Option (List V)
  | [] => some []
  | d :: r => match flatD d, flatDs r with
    | some v, some vs => some (v :: vs)
    | _, _ => none
/-- in a list or tuple of flat things -/
def gInQ : Sto → D → D → Option D := fun S d e => match flatD d, deref S e with
  | some x, .lst ys => (flatDs ys).map fun vs => .bl (inV x vs)
  | some x, .tup ys => (flatDs ys).map fun vs => .bl (inV x vs)
  | _, _ => none
def gNotInQ : Sto → D → D → Option D := fun S d e => match gInQ S d e with
  | some (.bl b) => some (.bl (!b))
  | _ => none
def rSeq (a : RE) : RA := fun δ S => (a δ S).bind fun x S1 => match x with
  | .lst ds => .ok ds S1
  | .tup ds => .ok ds S1
  | .str z => .ok (z.cps.toList.map fun c => .str ⟨#[c]⟩) S1
  | _ => .stuck
def rangeD (lo hi : Int) : List D := (List.range (hi - lo).toNat).map fun (i : Nat) => .int (lo + i)
def rRange (a : RA) : RA := fun δ S => (a δ S).bind fun xs S1 => match xs with
  | [.int j] => if -(2 ^ 62) ≤ j ∧ j < 2 ^ 62 then .ok (rangeD 0 j) S1 else .stuck
  | [.int i, .int j] => if -(2 ^ 62) ≤ i ∧ i < 2 ^ 62 ∧ -(2 ^ 62) ≤ j ∧ j < 2 ^ 62 then .ok (rangeD i j) S1 else .stuck
  | _ => .stuck
def enumD : Nat → List D → List D
  | _, [] => []
  | n, d :: r => .tux [.int n, d] :: enumD (n + 1) r
def rEnum (a : RA) : RA := fun δ S => (a δ S).bind fun xs S1 => match xs with
  | [.lst ds] => .ok (enumD 0 ds) S1
  | _ => .stuck
def zipD : List D → List D → List D
  | a :: as, b :: bs => .tux [a, b] :: zipD as bs
  | _, _ => []
def rZip (a : RA) : RA := fun δ S => (a δ S).bind fun xs S1 => match xs with
  | [.lst ds, .lst es] => .ok (zipD ds es) S1
  | _ => .stuck
/-- a target of names, from a list -/
def gUnl (u : List D → Sl → Sto → Res Sl) : RG := fun d δ S => match deref S d with
  | .lst ds => u ds δ S
  | _ => .stuck
/-- a, b = x, y -/
def sPar (i j : Nat) (a : RA) : RS := fun δ S => (a δ S).out δ fun xs S1 => match xs with
  | [x, y] => if i < δ.length ∧ j < δ.length then .nx ((δ.set i (some x)).set j (some y)) S1 else .stuck
  | _ => .stuck

section
variable {X : Cx} {W : WX} {a b c e tg : Expr} {es rest : List Expr} {ra rb rc : RE} {ba bb : RB} {rs : RA} {pos p : Pos} {wd : World} {K : Fg} {mg : Str → Option Value} {α β : List Addr} {F F1 H H1 : Hp} {S : Sto}
/-! ### slices -/
def SndO (wd : World) (K : Fg) (mg : Str → Option Value) (W : WX) (t : TO) (r : RO) : Prop := ∀ α F σ H δ S (Q : Option Int → Hp → Prop), Rel wd K mg α F H S → Slots wd K mg F α σ δ → wp wd K mg α F H (fun _ _ (b a : Option Int) => b = a) (r δ S) Q (fun c d H' => W c d σ H') → t σ H Q
structure POd (X : Cx) (W : WX) (e : Option Expr) (r : RO) : Prop where
  ex : ∃ t, PO X e t ∧ SndO X.w X.K X.mg W t r
theorem pod_none : POd X W none oNone := ⟨_, po_none, fun α F σ H δ S Q hr hs h => h.now hr rfl⟩
theorem pod_some (ha : PD X W a ra) : POd X W (some a) (oSome ra) := by
  obtain ⟨t, p1, s1⟩ := ha.ex
  refine ⟨_, po_some p1, fun α F σ H δ S Q hr hs h => ?_⟩
  refine s1 α F σ H δ S _ hr hs (wp.bind h fun d S1 _ x H1 β F1 r1 q1 v1 h1 => ?_)
  cases d with
  | int i => cases v1; exact ⟨i, rfl, h1.now r1 rfl⟩
  | _ => exact h1.elim
theorem cut_DVs {xs : List D} {us : List V} (lo hi : Option Int) (h : DVs wd K mg F α us xs) : DVs wd K mg F α (cutV us lo hi) (cutD xs lo hi) := by
  unfold cutV cutD
  rw [h.length]
  exact (h.drop _).take _
theorem pd_cut {lo hi : Option Expr} {p2 : Pos} {ol oh : RO} (ha : PD X W a ra) (hl : POd X W lo ol) (hh : POd X W hi oh) : PD X W (.Subscript a (.Slice lo hi none p2) pos) (rCut ra ol oh) := by
  obtain ⟨ta, pa, sa⟩ := ha.ex
  obtain ⟨tl, pl, sl⟩ := hl.ex
  obtain ⟨th, ph, sh⟩ := hh.ex
  refine ⟨_, pe_slice ((sl_list.or sl_tupP).or sl_str) pa pl ph, fun α F σ H δ S Q hr hs h => ?_⟩
  refine sa α F σ H δ S _ hr hs (wp.bind h fun d S1 _ x H1 β F1 r1 q1 v1 h1 => ?_)
  refine sl (α ++ β) F1 σ H1 δ S1 _ r1 (hs.mono q1.sub) (wp.bind h1 fun i S2 _ i' H2 γ F2 r2 q2 v2 h2 => ?_)
  have v2 : i' = i := v2
  subst v2
  refine sh (α ++ β ++ γ) F2 σ H2 δ S2 _ r2 ((hs.mono q1.sub).mono q2.sub) (wp.bind h2 fun j S3 _ j' H3 ε F3 r3 q3 v3 h3 => ?_)
  have v3 : j' = j := v3
  subst v3
  have vx := (v1.mono (β := γ) q2.sub).mono (β := ε) q3.sub
  split at h3
  · rename_i xs e1
    obtain ⟨l, us, rfl, a1, a2⟩ := r3.viewL vx e1
    refine .inl (.inl ⟨l, us, rfl, a1, fun p hp => ?_⟩)
    obtain ⟨c1, c2, c3⟩ := r3.lst (cut_DVs _ _ a2) hp
    exact h3 _ _ _ _ c1 c2 c3
  · rename_i xs e1
    obtain ⟨l, us, rfl, a1, a2⟩ := r3.viewT vx e1
    refine .inl (.inr ⟨l, us, rfl, a1, fun hw => ?_, fun _ p hp o ho => ?_⟩)
    · have ew : cutD xs i' j' = xs := by
        unfold cutD
        rw [a2.length] at hw
        rw [hw.1, hw.2, List.drop_zero, Nat.sub_zero, List.take_length]
      rw [ew] at h3
      have sx := r3.see vx
      rw [e1] at sx
      cases sx with
      | «at» h _ => exact h3.now r3 h
    · obtain ⟨c1, c2, c3⟩ := r3.tup (cut_DVs _ _ a2) hp ho
      exact h3 _ _ _ _ c1 c2 c3
  · rename_i zz e1
    split at h3
    · rename_i hl
      have := r3.viewS vx e1
      subst this
      exact .inr ⟨zz, rfl, hl, h3.now r3 (.str _)⟩
    · exact h3.elim
  · exact h3.elim
/-! ### in -/
theorem len1_eq {x : Str} (h : x.length = 1) : x = ⟨#[x.cps.getD 0 0]⟩ := by
  obtain ⟨⟨l⟩⟩ := x
  match l, h with
  | [c], _ => rfl
theorem g_in1 : OpG X (compareOp .In) gIn1 := by
  refine ⟨_, op_in_sign, fun α F H S x y d e z Q hr hx hy hz q => ?_⟩
  unfold gIn1 at hz
  split at hz
  · rename_i x zz e1
    split at hz
    · rename_i hl
      cases hz; cases hx
      have := hr.viewS hy e1
      subst this
      exact ⟨_, zz, by rw [← len1_eq hl], rfl, fin_now hr (.bl _) q⟩
    · cases hz
  · cases hz
theorem g_notIn1 : OpG X (compareOp .NotIn) gNotIn1 := by
  refine ⟨_, op_notIn_sign, fun α F H S x y d e z Q hr hx hy hz q => ?_⟩
  unfold gNotIn1 at hz
  split at hz
  · rename_i k e0
    cases hz
    unfold gIn1 at e0
    split at e0
    · rename_i x zz e1
      split at e0
      · rename_i hl
        cases e0; cases hx
        have := hr.viewS hy e1
        subst this
        exact ⟨_, zz, by rw [← len1_eq hl], rfl, fin_now hr (.bl _) q⟩
      · cases e0
    · cases e0
  · cases hz
theorem flatD_eq {d : D} {v u : V} (h : flatD d = some v) (hv : DV wd K mg F α u d) : u = v ∧ flatV v = true := by
  cases hv <;> cases h <;> exact ⟨rfl, rfl⟩
theorem flatDs_eq : ∀ {ds : List D} {vs us : List V}, flatDs ds = some vs → DVs wd K mg F α us ds → us = vs ∧ vs.all flatV = true
  | [], _, _, h, hv => by cases h; cases hv; exact ⟨rfl, rfl⟩
  | d :: r, _, _, h, hv => by
    unfold flatDs at h
    split at h
    · rename_i e1 e2
      cases h
      cases hv with
      | cons h1 h2 =>
        obtain ⟨a1, a2⟩ := flatD_eq e1 h1
        obtain ⟨b1, b2⟩ := flatDs_eq e2 h2
        subst a1; subst b1
        exact ⟨rfl, by rw [List.all_cons, a2, b2]; rfl⟩
    · cases h
theorem inQ_ok {S : Sto} {d e : D} {k : Bool} {x y : V} (hr : Rel wd K mg α F H S) (hx : DV wd K mg F α x d) (hy : DV wd K mg F α y e) (h : gInQ S d e = some (.bl k)) : ∃ p xs, y = .ref p ∧ (SqL K H p xs ∨ SqT K H p xs) ∧ flatV x = true ∧ xs.all flatV = true ∧ k = inV x xs := by
  unfold gInQ at h
  split at h
  · rename_i v ys e1 e2
    cases e3 : flatDs ys with
    | none => rw [e3] at h; cases h
    | some vs =>
      rw [e3] at h; cases h
      obtain ⟨a1, a2⟩ := flatD_eq e1 hx
      obtain ⟨l, us, rfl, b1, b2⟩ := hr.viewL hy e2
      obtain ⟨c1, c2⟩ := flatDs_eq e3 b2
      subst a1; subst c1
      exact ⟨l, us, rfl, .inl b1, a2, c2, rfl⟩
  · rename_i v ys e1 e2
    cases e3 : flatDs ys with
    | none => rw [e3] at h; cases h
    | some vs =>
      rw [e3] at h; cases h
      obtain ⟨a1, a2⟩ := flatD_eq e1 hx
      obtain ⟨l, us, rfl, b1, b2⟩ := hr.viewT hy e2
      obtain ⟨c1, c2⟩ := flatDs_eq e3 b2
      subst a1; subst c1
      exact ⟨l, us, rfl, .inr b1, a2, c2, rfl⟩
  · cases h
theorem inQ_bl {S : Sto} {d e z : D} (h : gInQ S d e = some z) : ∃ k, z = .bl k := by
  unfold gInQ at h
  split at h
  · rename_i v ys _ _
    cases e3 : flatDs ys with
    | none => rw [e3] at h; cases h
    | some vs => rw [e3] at h; cases h; exact ⟨_, rfl⟩
  · rename_i v ys _ _
    cases e3 : flatDs ys with
    | none => rw [e3] at h; cases h
    | some vs => rw [e3] at h; cases h; exact ⟨_, rfl⟩
  · cases h
theorem g_inQ : OpG X (compareOp .In) gInQ := by
  refine ⟨_, op_in_seq, fun α F H S x y d e z Q hr hx hy hz q => ?_⟩
  obtain ⟨k, rfl⟩ := inQ_bl hz
  obtain ⟨l, us, rfl, a1, a2, a3, rfl⟩ := inQ_ok hr hx hy hz
  exact ⟨l, us, rfl, a1, a2, a3, fin_now hr (.bl _) q⟩
theorem g_notInQ : OpG X (compareOp .NotIn) gNotInQ := by
  refine ⟨_, op_notIn_seq, fun α F H S x y d e z Q hr hx hy hz q => ?_⟩
  unfold gNotInQ at hz
  split at hz
  · rename_i k e0
    cases hz
    obtain ⟨l, us, rfl, a1, a2, a3, rfl⟩ := inQ_ok hr hx hy e0
    exact ⟨l, us, rfl, a1, a2, a3, fin_now hr (.bl _) q⟩
  · cases hz

/-! ### what is walked -/
theorem pi_or {wi wi' : TI} (h : PI X tg e wi) (h' : PI X tg e wi') : PI X tg e (fun σ H R => wi σ H R ∨ wi' σ H R) :=
  ⟨fun pins s σ H R I q => q.elim (h.run pins s σ H R I) (h'.run pins s σ H R I)⟩
theorem it_list {l : Addr} {us : List V} {ds : List D} (h : SqL K F l us) (hv : DVs wd K mg F α us ds) : ItOk wd K mg F α (Itl K l) ds where
  go := fun F' H' i a b hi => by
    obtain ⟨v, e1, _⟩ := hv.get (List.getElem?_eq_getElem hi)
    exact ⟨us, v, (a.trans b).sqL h, e1⟩
  stop := fun F' H' a b => ⟨us, (a.trans b).sqL h, by rw [hv.length]; exact Nat.le_refl _⟩
  yld := fun F' H' H2 i x d a b hd ⟨e1, e2⟩ => by
    refine .inl ⟨e1, ?_⟩
    have e3 := e2 us ((a.trans b).sqL h)
    obtain ⟨v, e4, e5⟩ := hv.get hd
    rw [e3] at e4; cases e4
    have := e5.mono (β := []) a
    rw [List.append_nil] at this; exact this
theorem it_tup {l : Addr} {us : List V} {ds : List D} (h : SqT K F l us) (hv : DVs wd K mg F α us ds) : ItOk wd K mg F α (Itt K l) ds where
  go := fun F' H' i a b hi => by
    obtain ⟨v, e1, _⟩ := hv.get (List.getElem?_eq_getElem hi)
    exact ⟨us, v, (a.trans b).sqT h, e1⟩
  stop := fun F' H' a b => ⟨us, (a.trans b).sqT h, by rw [hv.length]; exact Nat.le_refl _⟩
  yld := fun F' H' H2 i x d a b hd ⟨e1, e2⟩ => by
    refine .inl ⟨e1, ?_⟩
    have e3 := e2 us ((a.trans b).sqT h)
    obtain ⟨v, e4, e5⟩ := hv.get hd
    rw [e3] at e4; cases e4
    have := e5.mono (β := []) a
    rw [List.append_nil] at this; exact this
theorem it_str (z : Str) : ItOk wd K mg F α (Its z) (z.cps.toList.map fun c => .str ⟨#[c]⟩) where
  go := fun F' H' i a b hi => by show i < z.cps.size; simpa using hi
  stop := fun F' H' a b => by show z.cps.size ≤ _; simp
  yld := fun F' H' H2 i x d a b hd ⟨e1, c, e2, e3⟩ => by
    subst e3
    refine .inl ⟨e1, ?_⟩
    rw [List.getElem?_map, Array.getElem?_toList, e2] at hd
    cases hd
    exact .str _
theorem it_range (lo hi : Int) : ItOk wd K mg F α (Itr lo (hi - lo).toNat) (rangeD lo hi) where
  go := fun F' H' i a b h => by show i < (hi - lo).toNat; simpa [rangeD] using h
  stop := fun F' H' a b => by show _ ≤ (rangeD lo hi).length; simp [rangeD]
  yld := fun F' H' H2 i x d a b hd ⟨e1, e2⟩ => by
    subst e2
    refine .inl ⟨e1, ?_⟩
    unfold rangeD at hd
    rw [List.getElem?_map] at hd
    cases q : (List.range (hi - lo).toNat)[i]? with
    | none => rw [q] at hd; cases hd
    | some j =>
      rw [q] at hd; cases hd
      have : j = i := by
        obtain ⟨_, e⟩ := List.getElem?_eq_some_iff.mp q
        simpa using e.symm
      subst this
      exact .int _
theorem pid_seq (ha : PD X W e ra) : PId X W tg e (rSeq ra) := by
  obtain ⟨t, p1, s1⟩ := ha.ex
  refine ⟨_, pi_or (pi_or (pi_list p1) (pi_tup p1)) (pi_str p1), fun α F σ H δ S Q hr hs h => ?_⟩
  unfold rSeq at h
  cases q : ra δ S with
  | err c fs S1 =>
    rw [q] at h
    refine .inl (.inl (s1 α F σ H δ S _ hr hs ?_))
    rw [q]; exact h
  | stuck => rw [q] at h; exact h.elim
  | ok d S1 =>
    rw [q] at h
    cases d with
    | lst ds =>
      refine .inl (.inl (s1 α F σ H δ S _ hr hs ?_))
      rw [q]
      intro v H' β F' r1 st v1
      cases v1 with
      | lst h1 h2 => exact ⟨_, rfl, ⟨_, r1.sub.sqL h1⟩, h _ H' β F' r1 st (it_list h1 h2)⟩
    | tup ds =>
      refine .inl (.inr (s1 α F σ H δ S _ hr hs ?_))
      rw [q]
      intro v H' β F' r1 st v1
      cases v1 with
      | tup h1 h2 => exact ⟨_, rfl, ⟨_, r1.sub.sqT h1.1⟩, h _ H' β F' r1 st (it_tup h1.1 h2)⟩
    | str z =>
      refine .inr (s1 α F σ H δ S _ hr hs ?_)
      rw [q]
      intro v H' β F' r1 st v1
      cases v1
      exact ⟨z, rfl, h _ H' β F' r1 st (it_str z)⟩
    | _ => exact (show False from h).elim
theorem pid_range1 (hm : X.mg "range" = none) (ha : PDs X W [a] rs) (hg : Gl X "range" := by rfl) (hs : starEach [a] X.env = [(false, eval a X.env)] := by rfl) : PId X W tg (.Call (.Name "range" p) [a] [] pos) (rRange rs) := by
  obtain ⟨t, p1, s1⟩ := ha.ex
  refine ⟨_, pi_range1 hg hm p1 hs, fun α F σ H δ S Q hr hs h => ?_⟩
  refine s1 α F σ H δ S _ hr hs (wp.bind h fun ds S1 e1 xs H1 β F1 r1 q1 v1 h1 => ?_)
  have hl := ha.len _ _ _ _ e1
  match ds, hl with
  | [d], _ =>
    cases v1 with
    | cons v1 vn =>
      cases vn
      cases d with
      | int j =>
        cases v1
        dsimp only at h1
        split at h1
        · rename_i hc
          refine ⟨j, rfl, hc.1, hc.2, ?_⟩
          have := it_range (wd := X.w) (K := X.K) (mg := X.mg) (F := F1) (α := α ++ β) 0 j
          rw [Int.sub_zero] at this
          exact h1.now r1 this
        · exact h1.elim
      | _ => exact h1.elim
theorem pid_range2 (hm : X.mg "range" = none) (ha : PDs X W [a, b] rs) (hg : Gl X "range" := by rfl) (hs : starEach [a, b] X.env = [(false, eval a X.env), (false, eval b X.env)] := by rfl) (hs2 : starEach [b] X.env = [(false, eval b X.env)] := by rfl) : PId X W tg (.Call (.Name "range" p) [a, b] [] pos) (rRange rs) := by
  obtain ⟨t, p1, s1⟩ := ha.ex
  refine ⟨_, pi_range2 hg hm p1 hs hs2, fun α F σ H δ S Q hr hs h => ?_⟩
  refine s1 α F σ H δ S _ hr hs (wp.bind h fun ds S1 e1 xs H1 β F1 r1 q1 v1 h1 => ?_)
  have hl := ha.len _ _ _ _ e1
  match ds, hl with
  | [d, d'], _ =>
    cases v1 with
    | cons v1 vn =>
      cases vn with
      | cons v2 vn =>
        cases vn
        cases d with
        | int i =>
          cases d' with
          | int j =>
            cases v1; cases v2
            dsimp only at h1
            split at h1
            · rename_i hc
              exact ⟨i, j, rfl, hc, h1.now r1 (it_range i j)⟩
            · exact h1.elim
          | _ => exact h1.elim
        | _ => exact h1.elim
theorem enumD_get : ∀ {ds : List D} {n i : Nat} {d : D}, (enumD n ds)[i]? = some d → ∃ e, ds[i]? = some e ∧ d = .tux [.int ((n + i : Nat) : Int), e]
  | [], _, _, _, h => by simp [enumD] at h
  | e :: r, n, 0, d, h => by simp [enumD] at h; exact ⟨e, rfl, by rw [← h]; rfl⟩
  | e :: r, n, i + 1, d, h => by
    obtain ⟨e', h1, h2⟩ := enumD_get (ds := r) (n := n + 1) (i := i) (d := d) (by simpa [enumD] using h)
    exact ⟨e', by simpa using h1, by rw [h2]; congr 4; omega⟩
theorem enumD_len : ∀ (n : Nat) (ds : List D), (enumD n ds).length = ds.length
  | _, [] => rfl
  | n, _ :: r => by rw [enumD, List.length_cons, List.length_cons, enumD_len]
theorem it_enum {l : Addr} {us : List V} {ds : List D} (h : SqL K F l us) (hv : DVs wd K mg F α us ds) : ItOk wd K mg F α (Ite K l) (enumD 0 ds) where
  go := fun F' H' i a b hi => by
    rw [enumD_len] at hi
    obtain ⟨v, e1, _⟩ := hv.get (List.getElem?_eq_getElem hi)
    exact ⟨us, v, (a.trans b).sqL h, e1⟩
  stop := fun F' H' a b => ⟨us, (a.trans b).sqL h, by rw [hv.length, enumD_len]; exact Nat.le_refl _⟩
  yld := fun F' H' H2 i x d a b hd ⟨T, y, e1, e2, e3, e4⟩ => by
    have e5 := e4 us ((a.trans b).sqL h)
    obtain ⟨e, e6, rfl⟩ := enumD_get hd
    obtain ⟨v, e7, e8⟩ := hv.get e6
    rw [e5] at e7; cases e7
    subst e1
    have nF : F' T = none := by
      cases z : F' T with
      | none => rfl
      | some u => rw [b _ _ z] at e2; cases e2
    refine .inr ⟨T, _, e2, e3, .tux (SqT.of upd_same) (.cons ?_ (.cons ?_ .nil))⟩
    · rw [Nat.zero_add]; exact .int _
    · have := e8.mono (β := []) (a.trans (Sub.new (o := .tup [.int (i : Nat), y]) nF))
      rw [List.append_nil] at this; exact this
theorem pid_enum {elts : List Expr} {kk : Nat} {tpos : Pos} (hm : X.mg "enumerate" = none) (ha : PDs X W [e] rs) (hg : Gl X "enumerate" := by rfl) (hs : starEach [e] X.env = [(false, eval e X.env)] := by rfl) : PId X W (.Tuple elts kk tpos) (.Call (.Name "enumerate" p) [e] [] pos) (rEnum rs) := by
  obtain ⟨t, p1, s1⟩ := ha.ex
  refine ⟨_, pi_enum hg hm p1 hs, fun α F σ H δ S Q hr hs h => ?_⟩
  refine s1 α F σ H δ S _ hr hs (wp.bind h fun ds S1 e1 xs H1 β F1 r1 q1 v1 h1 => ?_)
  have hl := ha.len _ _ _ _ e1
  match ds, hl with
  | [d], _ =>
    cases v1 with
    | cons v1 vn =>
      cases vn
      cases d with
      | lst ys =>
        cases v1 with
        | lst a1 a2 => exact ⟨_, _, rfl, r1.sub.sqL a1, h1.now r1 (it_enum a1 a2)⟩
      | _ => exact h1.elim
theorem zipD_get : ∀ {xs ys : List D} {i : Nat} {d : D}, (zipD xs ys)[i]? = some d → ∃ x y, xs[i]? = some x ∧ ys[i]? = some y ∧ d = .tux [x, y]
  | a :: as, b :: bs, 0, d, h => by simp [zipD] at h; exact ⟨a, b, rfl, rfl, h.symm⟩
  | a :: as, b :: bs, i + 1, d, h => by
    obtain ⟨x, y, h1, h2, h3⟩ := zipD_get (xs := as) (ys := bs) (i := i) (d := d) (by simpa [zipD] using h)
    exact ⟨x, y, by simpa using h1, by simpa using h2, h3⟩
  | [], _, _, _, h => by simp [zipD] at h
  | _ :: _, [], _, _, h => by simp [zipD] at h
theorem zipD_len : ∀ xs ys : List D, (zipD xs ys).length = min xs.length ys.length
  | a :: as, b :: bs => by rw [zipD, List.length_cons, zipD_len, List.length_cons, List.length_cons]; omega
  | [], _ => by simp [zipD]
  | _ :: _, [] => by simp [zipD]
theorem it_zip {l m : Addr} {us ws : List V} {ds es : List D} (h : SqL K F l us) (hv : DVs wd K mg F α us ds) (g : SqL K F m ws) (gv : DVs wd K mg F α ws es) : ItOk wd K mg F α (Itz K l m) (zipD ds es) where
  go := fun F' H' i a b hi => by
    rw [zipD_len] at hi
    obtain ⟨v, e1, _⟩ := hv.get (List.getElem?_eq_getElem (by omega : i < ds.length))
    obtain ⟨u, e2, _⟩ := gv.get (List.getElem?_eq_getElem (by omega : i < es.length))
    exact ⟨us, ws, v, u, (a.trans b).sqL h, (a.trans b).sqL g, e1, e2⟩
  stop := fun F' H' a b => ⟨us, ws, (a.trans b).sqL h, (a.trans b).sqL g, by rw [hv.length, gv.length, zipD_len]; omega⟩
  yld := fun F' H' H2 i x d a b hd ⟨T, y, y2, e1, e2, e3, e4, e5⟩ => by
    have f1 := e4 us ((a.trans b).sqL h)
    have f2 := e5 ws ((a.trans b).sqL g)
    obtain ⟨p, q, e6, e7, rfl⟩ := zipD_get hd
    obtain ⟨v, e8, e9⟩ := hv.get e6
    rw [f1] at e8; cases e8
    obtain ⟨v2, e10, e11⟩ := gv.get e7
    rw [f2] at e10; cases e10
    subst e1
    have nF : F' T = none := by
      cases z : F' T with
      | none => rfl
      | some u => rw [b _ _ z] at e2; cases e2
    have sb := a.trans (Sub.new (o := .tup [y, y2]) nF)
    refine .inr ⟨T, _, e2, e3, .tux (SqT.of upd_same) (.cons ?_ (.cons ?_ .nil))⟩
    · have := e9.mono (β := []) sb
      rw [List.append_nil] at this; exact this
    · have := e11.mono (β := []) sb
      rw [List.append_nil] at this; exact this
theorem pid_zip {elts : List Expr} {kk : Nat} {tpos : Pos} (hm : X.mg "zip" = none) (ha : PDs X W [a, b] rs) (hg : Gl X "zip" := by rfl) (hs : starEach [a, b] X.env = (false, eval a X.env) :: starEach [b] X.env := by rfl) (hpl : (backTo pos (starEach [b] X.env)).any (·.1) = false := by rfl) : PId X W (.Tuple elts kk tpos) (.Call (.Name "zip" p) [a, b] [] pos) (rZip rs) := by
  obtain ⟨t, p1, s1⟩ := ha.ex
  refine ⟨_, pi_zip hg hm p1 hs hpl, fun α F σ H δ S Q hr hs h => ?_⟩
  refine s1 α F σ H δ S _ hr hs (wp.bind h fun ds S1 e1 xs H1 β F1 r1 q1 v1 h1 => ?_)
  have hl := ha.len _ _ _ _ e1
  match ds, hl with
  | [d, d'], _ =>
    cases v1 with
    | cons v1 vn =>
      cases vn with
      | cons v2 vn =>
        cases vn
        cases d with
        | lst ys =>
          cases d' with
          | lst zs =>
            cases v1 with
            | lst a1 a2 => cases v2 with
              | lst b1 b2 => exact ⟨_, _, _, _, rfl, r1.sub.sqL a1, r1.sub.sqL b1, h1.now r1 (it_zip a1 a2 b1 b2)⟩
          | _ => exact h1.elim
        | _ => exact h1.elim
/-! ### targets from a list, two names at once -/
theorem pgn_unl {k : Nat} {u : List D → Sl → Sto → Res Sl} (hc : X.calm = true) (h : PGds X W es u) (hn : (assignEach es X.env).length = es.length := by rfl) (hst : (assignEach es X.env).findIdx? (·.1) = none := by rfl) : PGn X W (.Tuple es k pos) (gUnl u) := by
  obtain ⟨t, p1, s1⟩ := h.ex
  refine ⟨⟨_, pg_unl hc p1 hn hst, fun α F σ H δ S v d Q hr hs hv h0 => ?_⟩, fun d δ S c fs S' h0 => ?_⟩
  · unfold gUnl at h0
    cases q : deref S d with
    | lst ds =>
      rw [q] at h0
      dsimp only at h0
      obtain ⟨a, xs, e1, e2, e3⟩ := hr.viewL hv q
      have len : ds.length = es.length := by
        cases q2 : u ds δ S with
        | ok δ' S' => exact h.len _ _ _ _ _ q2
        | err c fs S' => exact absurd q2 (h.ne _ _ _ _ _ _)
        | stuck => rw [q2] at h0; exact h0.elim
      exact ⟨a, xs, e1, e2, by rw [e3.length]; exact len, s1 α F σ H δ S xs ds Q hr hs e3 h0⟩
    | _ => rw [q] at h0; exact h0.elim
  · unfold gUnl at h0
    cases q : deref S d with
    | lst ds => rw [q] at h0; exact h.ne _ _ _ _ _ _ h0
    | _ => rw [q] at h0; cases h0
theorem psd_par {i j : Nat} {x y : Str} {px py pt : Pos} {kt k2 : Nat} {pt2 : Pos} (hc : X.calm = true) (hN : X.N.Nodup) (ha : PDs X W [a, b] rs) (hij : i ≠ j := by decide) (hi : X.N[i]? = some x := by rfl) (hj : X.N[j]? = some y := by rfl) (hx : X.env.scope.names.lookup x = some .local := by rfl) (hy : X.env.scope.names.lookup y = some .local := by rfl)
    (hw : swappedStores [.Tuple [.Name x px, .Name y py] kt pt] (.Tuple [a, b] k2 pt2) X.env = pure (some [x, y]) := by rfl) : PSd X W (.Assign [.Tuple [.Name x px, .Name y py] kt pt] (.Tuple [a, b] k2 pt2) pos) (sPar i j rs) := by
  obtain ⟨t, p1, s1⟩ := ha.ex
  refine ⟨_, ps_par hc hN hi hj hij hx hy p1 hw, fun α F σ H δ S E hr hs h => ?_⟩
  refine s1 α F σ H δ S _ hr hs (wpS.out h hs fun ds S1 e1 xs H1 β F1 r1 q1 v1 h1 => ?_)
  have hl := ha.len _ _ _ _ e1
  match ds, hl with
  | [d, d'], _ =>
    cases v1 with
    | cons v1 vn =>
      cases vn with
      | cons v2 vn =>
        cases vn
        dsimp only at h1
        split at h1
        · exact ⟨_, _, rfl, h1.nx r1 (((hs.mono q1.sub).set v1).set v2)⟩
        · exact h1.elim
end
end DL

set_option Elab.async false
set_option linter.all false
set_option maxRecDepth 100000
set_option maxHeartbeats 4000000
set_option autoImplicit false
/-! Data layer, twelfth part: lists that are made, dicts. -/
namespace DL
open PySem PySem.Spec PyProof.Rows L2

def keyEq : D → D → Bool
  | .int i, .int j => i == j
  | .str x, .str y => decide (x = y)
  | _, _ => false
def lookD : List (D × D) → D → Option D
  | [], _ => none
  | (k, v) :: r, q => if keyEq k q then some v else lookD r q
def replD : List (D × D) → D → D → List (D × D)
  | [], _, _ => []
  | (k, v) :: r, q, y => if keyEq k q then (k, y) :: replD r q y else (k, v) :: replD r q y
def putD (kvs : List (D × D)) (q y : D) : List (D × D) := if (lookD kvs q).isSome then replD kvs q y else kvs ++ [(q, y)]
def mergeD (kvs more : List (D × D)) : List (D × D) := more.foldl (fun acc kv => putD acc kv.1 kv.2) kvs
def isKey : D → Bool
  | .int _ => true
  | .str _ => true
  | _ => false
def gGet : Sto → D → D → Option D := fun S d k => if isKey k then (match deref S d with
  | .dct kvs => lookD kvs k
  | _ => none) else none
def gInK : Sto → D → D → Option D := fun S k d => if isKey k then (match deref S d with
  | .dct kvs => some (.bl (lookD kvs k).isSome)
  | _ => none) else none
def gNotInK : Sto → D → D → Option D := fun S k d => if isKey k then (match deref S d with
  | .dct kvs => some (.bl (!(lookD kvs k).isSome))
  | _ => none) else none
/-- pairs of a display, from the left -/
def rPairs : List (RE × RE) → Sl → Sto → Res (List (D × D))
  | [], _, S => .ok [] S
  | (k, v) :: r, δ, S => (k δ S).bind fun x S1 => (v δ S1).bind fun y S2 => (rPairs r δ S2).bind fun ps S3 => .ok ((x, y) :: ps) S3
def rDisp (ps : List (RE × RE)) : RE := fun δ S => (rPairs ps δ S).bind fun kvs S1 => if kvs.all (fun p => isKey p.1) && decide (kvs.length ≤ 15) then .ok (.dct (mergeD [] kvs)) S1 else .stuck
/-- d[k] = v -/
def sPut (d k v : RE) : RS := fun δ S => (v δ S).out δ fun z S1 => (d δ S1).out δ fun x S2 => (k δ S2).out δ fun y S3 => match x with
  | .ptr n => (match S3[n]? with
    | some (.dct kvs) => if isKey y && decide (kvs.length < sizeLine) then .nx δ (S3.set n (.dct (putD kvs y z))) else .stuck
    | _ => .stuck)
  | _ => .stuck
/-- xs[i] = v -/
def sSetL (d k v : RE) : RS := fun δ S => (v δ S).out δ fun z S1 => (d δ S1).out δ fun x S2 => (k δ S2).out δ fun y S3 => match x, y with
  | .ptr n, .int i => (match S3[n]? with
    | some (.lst xs) => (match ixN xs.length i with
      | some j => .nx δ (S3.set n (.lst (xs.set j z)))
      | none => .stuck)
    | _ => .stuck)
  | _, _ => .stuck
def gList : Sto → List D → Option D := fun S ds => match ds with
  | [d] => (match deref S d with
    | .lst xs => some (.lst xs)
    | .tup xs => some (.lst xs)
    | .str z => if z.cps.size ≤ sizeLine then some (.lst (z.cps.toList.map fun c => .str ⟨#[c]⟩)) else none
    | _ => none)
  | _ => none
def gSplit : Sto → D → List D → Option D := fun _ d ds => match d, ds with
  | .str a, [.str b] => if (b.length == 0) = false ∧ a.length + 2 ≤ sizeLine then some (.lst ((Txt.split a b).map .str)) else none
  | _, _ => none
def gTuple : Sto → List D → Option D := fun S ds => match ds with
  | [d] => (match deref S d with
    | .lst xs => some (.tup xs)
    | .tup xs => some (.tup xs)
    | _ => none)
  | _ => none

section
variable {X : Cx} {W : WX} {a b c e tg : Expr} {es rest : List Expr} {ra rb rc : RE} {ba bb : RB} {rs : RA} {pos p : Pos} {wd : World} {K : Fg} {mg : Str → Option Value} {α β : List Addr} {F F1 H H1 : Hp} {S : Sto}
/-! ### made by operators, calls, methods -/
theorem wpF.now {d : D} {Q : VK} {W : XK} {ad : Addr} {o : HO} (h : wpF wd K mg α F H (.ok d S) Q W) (hr : Rel wd K mg α F H S) (hp : H ad = none) (ho : Own wd K mg F α (upd H ad o) ad d) (hd : d.open = true) : Q (.ref ad) (upd H ad o) := h.lay hr hp ho hd
/-- by a list that is laid at a new place -/
def Lays (H : Hp) (xs : List V) (Q : VK) : Prop := ∀ p, H p = none → Q (.ref p) (upd H p (.lst xs))
theorem pf_bin {op : Operator} {g : Sto → D → D → Option D} {r : R2} (ho : OpR X (binaryOp op) r) (hg : ∀ α F H S x y d e z Q, Rel X.w X.K X.mg α F H S → DV X.w X.K X.mg F α x d → DV X.w X.K X.mg F α y e → g S d e = some z → ∃ ds xs, z = .lst ds ∧ DVs X.w X.K X.mg F α xs ds ∧ (Lays H xs Q → r x y H Q)) (ha : PD X W a ra) (hb : PD X W b rb) :
    PF X W (.BinOp a op b pos) (rBin g ra rb) := by
  obtain ⟨ta, pa, sa⟩ := ha.ex
  obtain ⟨tb, pb, sb⟩ := hb.ex
  refine ⟨_, pe_op ho pa pb, fun α F σ H δ S Q hr hs h => ?_⟩
  refine sa α F σ H δ S _ hr hs (wpF.bind h fun d S1 _ x H1 β F1 r1 s1 v1 h1 => ?_)
  refine sb (α ++ β) F1 σ H1 δ S1 _ r1 (hs.mono s1.sub) (wpF.bind h1 fun e S2 _ y H2 γ F2 r2 s2 v2 h2 => ?_)
  cases eg : g S2 d e with
  | none => rw [eg] at h2; exact h2.elim
  | some z =>
    rw [eg] at h2
    obtain ⟨ds, xs, rfl, e1, e2⟩ := hg _ F2 H2 S2 x y d e z Q r2 (v1.mono s2.sub) v2 eg
    exact e2 fun p hp => wpF.lay h2 r2 hp ⟨xs, upd_same, e1⟩ rfl
theorem op_catR : OpR X (binaryOp .Add) (fun x y H Q => ∃ l m xs zs, x = .ref l ∧ y = .ref m ∧ SqL X.K H l xs ∧ SqL X.K H m zs ∧ xs.length + zs.length ≤ sizeLine ∧ Lays H (xs ++ zs) Q) := by
  intro pins s σ H x y v u Q I rx ry h
  obtain ⟨l, m, xs, zs, rfl, rfl, h1, h2, hz, q⟩ := h
  cases rx; cases ry
  obtain ⟨its, r, ⟨o1, n1, g1, c1, _, w1⟩, _⟩ := I.list h1
  obtain ⟨its2, r2, ⟨o2, n2, g2, c2, _, w2⟩, _⟩ := I.list h2
  obtain ⟨k1, dd1, dt1, sl1⟩ := o1
  obtain ⟨k2, dd2, dt2, sl2⟩ := o2
  simp only at c1 c2 w1 w2
  subst c1 c2 w1 w2
  have l1 := r.length
  have l2 := r2.length
  have sz : its.toArray.size + its2.toArray.size ≤ sizeLine := by rw [List.size_toArray, List.size_toArray]; omega
  refine concat_meets ⟨_, g1, rfl⟩ ⟨_, g2, rfl⟩ noFill_list_add seq_list_add PySem.F.slot_list_add PySem.F.entry_list_add (PySem.F.args_list_add_2 _ _) (list_addW l m its.toArray its2.toArray n1 n2 dd1 dd2 sl1 sl2 sz) ⟨g1, g2, ?_⟩
  rw [show its.toArray ++ its2.toArray = (its ++ its2).toArray by simp]
  exact ⟨.ref s.heap.objs.size, _, I.lnew (t' := s.toks) (r.append r2) (by simp; omega), rfl, q _ I.fresh⟩
theorem pf_cat (ha : PD X W a ra) (hb : PD X W b rb) : PF X W (.BinOp a .Add b pos) (rBin gCat ra rb) := pf_bin op_catR (fun α F H S x y d e z Q hr hx hy hz => by
  unfold gCat at hz
  split at hz
  · rename_i xs ys e1 e2
    split at hz
    · rename_i hl
      cases hz
      obtain ⟨l, us, rfl, a1, a2⟩ := hr.viewL hx e1
      obtain ⟨m, ws, rfl, b1, b2⟩ := hr.viewL hy e2
      exact ⟨_, us ++ ws, rfl, a2.append b2, fun q => ⟨l, m, us, ws, rfl, rfl, a1, b1, by rw [a2.length, b2.length]; exact hl, q⟩⟩
    · cases hz
  · cases hz) ha hb
theorem DVs.rep {us : List V} {xs : List D} (h : DVs wd K mg F α us xs) : ∀ n : Nat, DVs wd K mg F α (List.replicate n us).flatten (List.replicate n xs).flatten
  | 0 => .nil
  | n + 1 => by
    rw [List.replicate_succ, List.replicate_succ, List.flatten_cons, List.flatten_cons]
    exact h.append (DVs.rep h n)
/-- a list, laid new, times a number -/
def gRepF : Sto → D → D → Option D := fun _ d e => match d, e with
  | .lst xs, .int k => if -(2 ^ 63) ≤ k ∧ k < 2 ^ 63 ∧ xs.length * k.toNat ≤ sizeLine then some (.lst (List.replicate k.toNat xs).flatten) else none
  | _, _ => none
theorem pf_rep (ha : PF X W a ra) (hb : PD X W b rb) : PF X W (.BinOp a .Mult b pos) (rBin gRepF ra rb) := by
  obtain ⟨ta, pa, sa⟩ := ha.ex
  obtain ⟨tb, pb, sb⟩ := hb.ex
  refine ⟨_, pe_op op_rep pa pb, fun α F σ H δ S Q hr hs h => ?_⟩
  refine sa α F σ H δ S _ hr hs ?_
  unfold rBin at h
  cases q : ra δ S with
  | err c fs S1 => rw [q] at h; exact h
  | stuck => rw [q] at h; exact h
  | ok d S1 =>
    rw [q] at h
    intro ad H1 β F1 r1 s1 hp hα hf ho hd
    have h1 : wpF X.w X.K X.mg (α ++ β) F1 H1 ((rb δ S1).bind fun y S2 => .lift (gRepF S2 d y) S2) Q _ := wpF.step s1 h
    refine sb (α ++ β) F1 σ H1 δ S1 _ r1 (hs.mono s1.sub) (wpF.bind h1 fun e S2 _ y H2 γ F2 r2 s2 v2 h2 => ?_)
    cases eg : gRepF S2 d e with
    | none => rw [eg] at h2; exact h2.elim
    | some z =>
      rw [eg] at h2
      cases d with
      | lst xs =>
        cases e with
        | int k =>
          unfold gRepF at eg
          dsimp only at eg
          split at eg
          · rename_i hl
            cases eg
            cases v2
            obtain ⟨us, o1, o2⟩ := ho
            refine ⟨ad, k, us, rfl, rfl, s2.frame ad _ hα o1, hl.1, hl.2.1, by rw [o2.length]; exact hl.2.2, fun p' hp' => ?_⟩
            exact wpF.lay h2 r2 hp' ⟨_, upd_same, (o2.mono s2.sub).rep _⟩ rfl
          · cases eg
        | _ => cases eg
      | _ => cases eg
/-- by a call of a built-in class, by a method -/
theorem pf_callT {x : Str} {T : String} {g : Sto → List D → Option D} {r : List V → Hp → VK → Prop} (hc : CallR X (.type T) r) (hgk : ∀ α F H S xs ds z Q, Rel X.w X.K X.mg α F H S → DVs X.w X.K X.mg F α xs ds → g S ds = some z → ∃ es us, z = .lst es ∧ DVs X.w X.K X.mg F α us es ∧ (Lays H us Q → r xs H Q))
    (hm : X.mg x = none) (ha : PDs X W (e :: es) rs) (hg : Gl X x := by rfl) (hv : bootBuiltins x = some (.type T) := by decide +kernel) (hn : x ≠ "__name__" := by decide) (hdb : (x == ("__debug__" : Str)) = false := by decide)
    (he : starEach (e :: es) X.env = (false, eval e X.env) :: starEach es X.env := by rfl) (hpl : (backTo pos (starEach es X.env)).any (·.1) = false := by rfl) : PF X W (.Call (.Name x p) (e :: es) [] pos) (rAs g rs) := by
  obtain ⟨t, pt, st⟩ := ha.ex
  refine ⟨_, pe_callTy hc hg hm hv pt hn hdb he hpl, fun α F σ H δ S Q hr hs h => ?_⟩
  refine st α F σ H δ S _ hr hs (wpF.bind h fun ds S1 _ xs H1 β F1 r1 q1 v1 h1 => ?_)
  cases eg : g S1 ds with
  | none => rw [eg] at h1; exact h1.elim
  | some z =>
    rw [eg] at h1
    obtain ⟨es', us, rfl, e1, e2⟩ := hgk _ F1 H1 S1 xs ds z Q r1 v1 eg
    exact e2 fun p hp => wpF.lay h1 r1 hp ⟨us, upd_same, e1⟩ rfl
theorem call_listS (hc : X.calm = true) : CallR X (.type "list") (fun xs H Q => ∃ z, xs = [.str z] ∧ z.cps.size ≤ sizeLine ∧ Lays H (z.cps.toList.map fun c => .str ⟨#[c]⟩) Q) := by
  intro pins s σ H xs us Q I rv h
  obtain ⟨z, rfl, hz, q⟩ := h
  obtain ⟨u, rfl, ru⟩ := vals1 rv
  obtain ⟨t, rfl⟩ := ru
  refine call_list_str (I.ok.hd hc) z t (fun h' tk acc c k e it => ?_) hz
  have hv : Vals (z.cps.toList.map fun c => V.str ⟨#[c]⟩) acc.toList := by
    refine vals_of_at (by simp [it.1]) fun j x u h1 h2 => ?_
    rw [Array.getElem?_toList] at h2
    obtain ⟨c, t', e1, e2⟩ := it.2 j u h2
    rw [List.getElem?_map, Array.getElem?_toList, e1] at h1
    cases h1
    exact ⟨t', e2⟩
  have nw : ObjOk X.prog X.w (upd H s.heap.objs.size (.lst (z.cps.toList.map fun c => V.str ⟨#[c]⟩))) h' s.heap.objs.size (.lst (z.cps.toList.map fun c => V.str ⟨#[c]⟩)) := ⟨by simpa using hz, acc.toList, c, hv, by simpa using e⟩
  exact ⟨.ref s.heap.objs.size, _, I.laid (t' := tk) k (Nat.le_refl _) nw, rfl, q _ I.fresh⟩
theorem pf_list (hc : X.calm = true) (hm : X.mg "list" = none) (ha : PDs X W (e :: es) rs) (hg : Gl X "list" := by rfl) (he : starEach (e :: es) X.env = (false, eval e X.env) :: starEach es X.env := by rfl) (hpl : (backTo pos (starEach es X.env)).any (·.1) = false := by rfl) :
    PF X W (.Call (.Name "list" p) (e :: es) [] pos) (rAs gList rs) := pf_callT (call_list_of.or (call_listS hc)) (fun α F H S xs ds z Q hr hv hz => by
  unfold gList at hz
  split at hz
  · cases hv with
    | cons h1 h2 =>
      cases h2
      split at hz
      · rename_i ys e1
        cases hz
        obtain ⟨l, us, rfl, a1, a2⟩ := hr.viewL h1 e1
        exact ⟨_, us, rfl, a2, fun q => .inl ⟨l, us, rfl, .inl a1, q⟩⟩
      · rename_i ys e1
        cases hz
        obtain ⟨l, us, rfl, a1, a2⟩ := hr.viewT h1 e1
        exact ⟨_, us, rfl, a2, fun q => .inl ⟨l, us, rfl, .inr a1, q⟩⟩
      · rename_i zz e1
        split at hz
        · rename_i hl
          cases hz
          have := hr.viewS h1 e1
          subst this
          refine ⟨_, zz.cps.toList.map fun c => .str ⟨#[c]⟩, rfl, ?_, fun q => .inr ⟨zz, rfl, hl, q⟩⟩
          have := DVs.of_strs (wd := X.w) (K := X.K) (mg := X.mg) (F := F) (α := α) (zz.cps.toList.map fun c => (⟨#[c]⟩ : Str))
          rw [List.map_map, List.map_map] at this
          exact this
        · cases hz
      · cases hz
  · cases hz) hm ha hg (by decide +kernel) (by decide) (by decide) he hpl
theorem b_tuple : BiG X (.type "tuple") gTuple := by
  refine ⟨_, call_tuple_ofP, fun α F H S xs ds z Q hr hv hz q => ?_⟩
  unfold gTuple at hz
  split at hz
  · cases hv with
    | cons h1 h2 =>
      cases h2
      split at hz
      · rename_i ys e1
        cases hz
        obtain ⟨l, us, rfl, a1, a2⟩ := hr.viewL h1 e1
        refine ⟨l, us, rfl, .inl ⟨a1, fun p hp o ho => ?_⟩⟩
        obtain ⟨c1, c2, c3⟩ := hr.tup a2 hp ho
        exact q _ _ _ _ c1 c2 c3
      · rename_i ys e1
        cases hz
        obtain ⟨l, us, rfl, a1, a2⟩ := hr.viewT h1 e1
        have sx := hr.see h1
        rw [e1] at sx
        cases sx with
        | «at» h _ => exact ⟨l, us, rfl, .inr ⟨a1, fin_now hr h q⟩⟩
      · cases hz
  · cases hz
def rSplit (ro rf : RE) : RE := fun δ S => (ro δ S).bind fun x S1 => match x with
  | .str _ => (rf δ S1).bind fun y S2 => .lift (gSplit S2 x [y]) S2
  | _ => .stuck
theorem pf_split {o f : Expr} {ro rf : RE} {apos cpos : Pos} (ho : PD X W o ro) (hf : PD X W f rf) (hs : starEach [f] X.env = [(false, eval f X.env)] := by rfl) (hbase : attributeBase o "split" X.env (eval o X.env) = eval o X.env := by rfl) (hline : (apos.endLine == cpos.line) = true := by rfl) :
    PF X W (.Call (.Attribute o "split" apos) [f] [] cpos) (rSplit ro rf) := by
  obtain ⟨to, po, so⟩ := ho.ex
  obtain ⟨tf, pf, sf⟩ := hf.ex
  refine ⟨_, pe_split po pf hs hbase hline, fun α F σ H δ S Q hr hs h => ?_⟩
  refine so α F σ H δ S _ hr hs (wpF.bind h fun d S1 _ x H1 β F1 r1 q1 v1 h1 => ?_)
  cases d with
  | str z =>
    cases v1
    refine ⟨⟨z, rfl⟩, ?_⟩
    refine sf (α ++ β) F1 σ H1 δ S1 _ r1 (hs.mono q1.sub) (wpF.bind h1 fun e S2 _ y H2 γ F2 r2 q2 v2 h2 => ?_)
    cases eg : gSplit S2 (.str z) [e] with
    | none => rw [eg] at h2; exact h2.elim
    | some zz =>
      rw [eg] at h2
      unfold gSplit at eg
      split at eg
      · rename_i a b q3 q4
        cases q3; cases q4
        split at eg
        · rename_i hl
          cases eg
          cases v2
          exact ⟨_, _, rfl, rfl, hl.1, hl.2, fun p hp => wpF.lay h2 r2 hp ⟨_, upd_same, DVs.of_strs _⟩ rfl⟩
        · cases eg
      · cases eg
  | _ => exact h1.elim
end
end DL

set_option Elab.async false
set_option linter.all false
set_option maxRecDepth 100000
set_option maxHeartbeats 4000000
set_option autoImplicit false
/-! Data layer, thirteenth part: dicts by numbers and texts; an item stored. -/
namespace DL
open PySem PySem.Spec PyProof.Rows L2

def kD : Key → D
  | .inl i => .int i
  | .inr x => .str x
theorem isKey_kD {d : D} (h : isKey d = true) : ∃ k, d = kD k := by
  cases d with
  | int i => exact ⟨.inl i, rfl⟩
  | str x => exact ⟨.inr x, rfl⟩
  | _ => cases h
theorem keyEq_kD (a b : Key) : keyEq (kD a) (kD b) = decide (a = b) := by
  cases a with
  | inl i => cases b with
    | inl j => show (i == j) = _; rw [key_ll]
    | inr y => show false = _; rw [key_lr]
  | inr x => cases b with
    | inl j => show false = _; rw [key_rl]
    | inr y => show decide (x = y) = _; rw [key_rr]
section
variable {X : Cx} {W : WX} {a b c e tg : Expr} {es rest : List Expr} {ra rb rc : RE} {ba bb : RB} {rs : RA} {pos p : Pos} {wd : World} {K : Fg} {mg : Str → Option Value} {α β : List Addr} {F F1 H H1 : Hp} {S : Sto}
theorem kD_DV {k : Key} {v : V} (h : DV wd K mg F α v (kD k)) : v = kV k := by cases k <;> cases h <;> rfl
/-- a dict's pairs -/
inductive KVs (wd : World) (K : Fg) (mg : Str → Option Value) (F : Hp) (α : List Addr) : List (Key × V) → List (D × D) → Prop
  | nil : KVs wd K mg F α [] []
  | cons {k : Key} {v : V} {d : D} {ws : List (Key × V)} {kvs : List (D × D)} : DV wd K mg F α v d → KVs wd K mg F α ws kvs → KVs wd K mg F α ((k, v) :: ws) ((kD k, d) :: kvs)
theorem KVs.of : ∀ {ws : List (Key × V)} {kvs : List (D × D)}, DKs (ws.map (·.1)) (kvs.map (·.1)) → DVs wd K mg F α (ws.map (·.2)) (kvs.map (·.2)) → KVs wd K mg F α ws kvs
  | [], [], _, _ => .nil
  | [], _ :: _, h, _ => by have := h.length; simp at this
  | _ :: _, [], h, _ => by have := h.length; simp at this
  | (k, v) :: ws, (q, d) :: kvs, h, g => by
    have h' : DKs (k :: ws.map (·.1)) (q :: kvs.map (·.1)) := h
    have g' : DVs wd K mg F α (v :: ws.map (·.2)) (d :: kvs.map (·.2)) := g
    cases g' with
    | cons g1 g2 =>
      cases h' with
      | int h2 => exact .cons (k := .inl _) g1 (KVs.of h2 g2)
      | str h2 => exact .cons (k := .inr _) g1 (KVs.of h2 g2)
theorem KVs.keys {ws : List (Key × V)} {kvs : List (D × D)} (h : KVs wd K mg F α ws kvs) : DKs (ws.map (·.1)) (kvs.map (·.1)) := by
  induction h with
  | nil => exact .nil
  | @cons k v d ws kvs _ _ ih => cases k with
    | inl i => exact .int ih
    | inr x => exact .str ih
theorem KVs.vals {ws : List (Key × V)} {kvs : List (D × D)} (h : KVs wd K mg F α ws kvs) : DVs wd K mg F α (ws.map (·.2)) (kvs.map (·.2)) := by
  induction h with
  | nil => exact .nil
  | cons h _ ih => exact .cons h ih
theorem KVs.length {ws : List (Key × V)} {kvs : List (D × D)} (h : KVs wd K mg F α ws kvs) : ws.length = kvs.length := by
  have := h.vals.length
  simpa using this
theorem KVs.look {ws : List (Key × V)} {kvs : List (D × D)} (h : KVs wd K mg F α ws kvs) (k : Key) : (∀ d, lookD kvs (kD k) = some d → ∃ v, valV ws k = some v ∧ DV wd K mg F α v d) ∧ (lookD kvs (kD k) = none → valV ws k = none) := by
  induction h with
  | nil => exact ⟨(fun d e => by cases e), fun _ => rfl⟩
  | @cons j v d ws kvs h _ ih =>
    unfold lookD
    rw [keyEq_kD]
    by_cases q : j = k
    · subst q
      rw [decide_eq_true rfl, if_pos rfl, valV_pos (p := (j, v)) rfl]
      exact ⟨(fun e z => by cases z; exact ⟨v, rfl, h⟩), fun z => by cases z⟩
    · rw [decide_eq_false q, if_neg (by decide), valV_neg (p := (j, v)) q]
      exact ih
theorem KVs.isSome {ws : List (Key × V)} {kvs : List (D × D)} (h : KVs wd K mg F α ws kvs) (k : Key) : (lookD kvs (kD k)).isSome = (valV ws k).isSome := by
  obtain ⟨h1, h2⟩ := h.look k
  cases e : lookD kvs (kD k) with
  | none => rw [h2 e]; rfl
  | some d => obtain ⟨v, e1, _⟩ := h1 d e; rw [e1]; rfl
theorem KVs.append {ws ws' : List (Key × V)} {kvs kvs' : List (D × D)} (h : KVs wd K mg F α ws kvs) (g : KVs wd K mg F α ws' kvs') : KVs wd K mg F α (ws ++ ws') (kvs ++ kvs') := by
  induction h with
  | nil => exact g
  | cons h _ ih => exact .cons h ih
theorem KVs.put {ws : List (Key × V)} {kvs : List (D × D)} (h : KVs wd K mg F α ws kvs) (k : Key) {v : V} {d : D} (hv : DV wd K mg F α v d) : KVs wd K mg F α (putK ws k v) (putD kvs (kD k) d) := by
  unfold putK putD
  rw [h.isSome k, valV_any]
  by_cases q : (valV ws k).isSome = true
  · rw [if_pos q, if_pos q]
    clear q
    induction h with
    | nil => exact .nil
    | @cons j u e ws kvs h1 _ ih =>
      rw [List.map_cons]
      unfold replD
      rw [keyEq_kD]
      by_cases z : j = k
      · subst z
        rw [decide_eq_true rfl, if_pos rfl, if_pos rfl]
        exact .cons hv ih
      · rw [if_neg (show ¬ (j, u).1 = k from z), decide_eq_false z, if_neg (show ¬ false = true by decide)]
        exact .cons h1 ih
  · rw [if_neg q, if_neg q]
    exact h.append (.cons hv .nil)
theorem KVs.merge {more : List (Key × V)} {mk : List (D × D)} (g : KVs wd K mg F α more mk) : ∀ {ws : List (Key × V)} {kvs : List (D × D)}, KVs wd K mg F α ws kvs → KVs wd K mg F α (mergeK ws more) (mergeD kvs mk) := by
  induction g with
  | nil => exact fun h => h
  | cons h1 _ ih => exact fun h => ih (h.put _ h1)
theorem Own.dctK {ad : Addr} {kvs : List (D × D)} : Own wd K mg F α H ad (.dct kvs) ↔ ∃ ws, H ad = some (.dK ws) ∧ KVs wd K mg F α ws kvs :=
  ⟨fun ⟨ws, h1, h2, h3⟩ => ⟨ws, h1, .of h2 h3⟩, fun ⟨ws, h1, h2⟩ => ⟨ws, h1, h2.keys, h2.vals⟩⟩
theorem Rel.viewD (hr : Rel wd K mg α F H S) {v : V} {d : D} {kvs : List (D × D)} (h : DV wd K mg F α v d) (e : deref S d = .dct kvs) : ∃ a ws, v = .ref a ∧ Rd H a (.dK ws) ∧ KVs wd K mg F α ws kvs := by
  have s := hr.see h
  rw [e] at s
  cases s with
  | «at» h _ => cases h
  | dct q k t => exact ⟨_, _, rfl, q, .of k t⟩
theorem pd_get (hu : X.A.units + 1 < cLine) (ha : PD X W a ra) (hb : PD X W b rb) (hs : NoSl b := by intro _ _; rfl) : PD X W (.Subscript a b pos) (rBin gGet ra rb) := by
  obtain ⟨ta, pa, sa⟩ := ha.ex
  obtain ⟨tb, pb, sb⟩ := hb.ex
  refine ⟨_, pe_dget hu pa pb hs, sa.bin sb fun α F H S x y d e z Q hr hx hy hz q => ?_⟩
  unfold gGet at hz
  split at hz
  · rename_i hk
    obtain ⟨k, rfl⟩ := isKey_kD hk
    split at hz
    · rename_i kvs e1
      obtain ⟨l, ws, rfl, a1, a2⟩ := hr.viewD hx e1
      obtain ⟨v, e2, e3⟩ := (a2.look k).1 z hz
      have := kD_DV hy
      subst this
      exact ⟨l, v, rfl, .inl ⟨ws, k, a1, rfl, e2.symm⟩, fin_now hr e3 q⟩
    · cases hz
  · cases hz
theorem inK_ok {x y : V} {d e z : D} (hr : Rel wd K mg α F H S) (hx : DV wd K mg F α x d) (hy : DV wd K mg F α y e) (h : gInK S d e = some z) : ∃ l o, y = .ref l ∧ DGet H l x o ∧ z = .bl o.isSome := by
  unfold gInK at h
  split at h
  · rename_i hk
    obtain ⟨k, rfl⟩ := isKey_kD hk
    split at h
    · rename_i kvs e1
      cases h
      obtain ⟨l, ws, rfl, a1, a2⟩ := hr.viewD hy e1
      have := kD_DV hx
      subst this
      exact ⟨l, valV ws k, rfl, .inl ⟨ws, k, a1, rfl, rfl⟩, by rw [a2.isSome]⟩
    · cases h
  · cases h
theorem pd_inK (hu : X.A.units + 1 < cLine) (ha : PD X W a ra) (hb : PD X W b rb) (hm : behindInMarks .In b = false := by rfl) : PD X W (.Compare a [.In] [b] pos) (rBin gInK ra rb) ∧ PB X W (.Compare a [.In] [b] pos) (bVal (rBin gInK ra rb)) := by
  obtain ⟨ta, pa, sa⟩ := ha.ex
  obtain ⟨tb, pb, sb⟩ := hb.ex
  have s : SndE X.w X.K X.mg W (tDIn ta tb) (rBin gInK ra rb) := sa.bin sb fun α F H S x y d e z Q hr hx hy hz q => by
    obtain ⟨l, o, rfl, h1, rfl⟩ := inK_ok hr hx hy hz
    exact ⟨l, o, rfl, h1, fin_now hr (.bl _) q⟩
  exact ⟨⟨_, pe_cmp (pc_din hu pa pb) hm, s⟩, ⟨_, pt_cmp (pc_din hu pa pb) hm, s.val⟩⟩
theorem pd_notInK (hu : X.A.units + 1 < cLine) (ha : PD X W a ra) (hb : PD X W b rb) (hm : behindInMarks .NotIn b = false := by rfl) : PD X W (.Compare a [.NotIn] [b] pos) (rBin gNotInK ra rb) ∧ PB X W (.Compare a [.NotIn] [b] pos) (bVal (rBin gNotInK ra rb)) := by
  obtain ⟨ta, pa, sa⟩ := ha.ex
  obtain ⟨tb, pb, sb⟩ := hb.ex
  have s : SndE X.w X.K X.mg W (tDNotIn ta tb) (rBin gNotInK ra rb) := sa.bin sb fun α F H S x y d e z Q hr hx hy hz q => by
    have h1 : ∃ w, gInK S d e = some w ∧ ∀ k, w = .bl k → z = .bl (!k) := by
      unfold gNotInK at hz
      unfold gInK
      split at hz
      · rename_i hk
        rw [if_pos hk]
        split at hz
        · rename_i kvs e1
          cases hz
          exact ⟨_, rfl, fun k ek => by cases ek; rfl⟩
        · cases hz
      · cases hz
    obtain ⟨w, h2, h3⟩ := h1
    obtain ⟨l, o, rfl, h4, rfl⟩ := inK_ok hr hx hy h2
    rw [h3 _ rfl] at q
    exact ⟨l, o, rfl, h4, fin_now hr (.bl _) q⟩
  exact ⟨⟨_, pe_cmp (pc_dnotin hu pa pb) hm, s⟩, ⟨_, pt_cmp (pc_dnotin hu pa pb) hm, s.val⟩⟩
theorem psd_put {o i value : Expr} {pos' : Pos} {ro ri rv : RE} (hu : X.A.units + 1 < cLine) (ho : PD X W o ro) (hi : PD X W i ri) (hv : PD X W value rv) (hs : swapsWith value (some (.Subscript o i pos')) pos.line X.env = pure false := by rfl) : PSd X W (.Assign [.Subscript o i pos'] value pos) (sPut ro ri rv) := by
  obtain ⟨to, po, so⟩ := ho.ex
  obtain ⟨ti, pi, si⟩ := hi.ex
  obtain ⟨tv, pv', sv⟩ := hv.ex
  refine ⟨_, ps_dput hu po pi pv' hs, fun α F σ H δ S E hr hs h => ?_⟩
  refine sv α F σ H δ S _ hr hs (wpS.out h hs fun z S1 _ v H1 β F1 r1 q1 v1 h1 => ?_)
  have hs1 := hs.mono (β := β) q1.sub
  refine so (α ++ β) F1 σ H1 δ S1 _ r1 hs1 (wpS.out h1 hs1 fun x S2 _ xv H2 γ F2 r2 q2 v2 h2 => ?_)
  have hs2 := hs1.mono (β := γ) q2.sub
  refine si (α ++ β ++ γ) F2 σ H2 δ S2 _ r2 hs2 (wpS.out h2 hs2 fun y S3 _ yv H3 ε F3 r3 q3 v3 h3 => ?_)
  have hs3 := hs2.mono (β := ε) q3.sub
  split at h3
  · rename_i n
    split at h3
    · rename_i kvs e1
      split at h3
      · rename_i hc
        rw [Bool.and_eq_true] at hc
        obtain ⟨k, rfl⟩ := isKey_kD hc.1
        have v2' := v2.mono (β := ε) q3.sub
        cases v2' with
        | ptr ea =>
          obtain ⟨o1, _⟩ := r3.own _ _ _ ea e1
          obtain ⟨ws, o2, o3⟩ := Own.dctK.mp o1
          have := kD_DV v3
          subst this
          have vz := (v1.mono (β := γ) q2.sub).mono (β := ε) q3.sub
          obtain ⟨a1, a2⟩ := r3.setO (o := .dK (putK ws k v)) (d := .dct (putD kvs (kD k) z)) ea e1 rfl (Own.dctK.mpr ⟨_, upd_same, o3.put k vz⟩)
          refine ⟨_, _, rfl, .inl ⟨ws, k, o2, rfl, by rw [o3.length]; exact of_decide_eq_true hc.2, rfl⟩, ?_⟩
          exact h3 _ _ _ _ a1 a2 (hs3.mono a2.sub)
      · exact h3.elim
    · exact h3.elim
  · exact h3.elim
theorem psd_setL {o i value : Expr} {pos' : Pos} {ro ri rv : RE} (ho : PD X W o ro) (hi : PD X W i ri) (hv : PD X W value rv) (ha : ∀ v, assign (.Subscript o i pos') X.env v = (do let ov ← holding [v] (eval o X.env); let iv ← holding [v, ov] (eval i X.env); standAt pos'; holding [v, ov, iv] (setItem ov iv v); release [v, ov, iv] []) := by intro _; rfl)
    (hsw : swapsWithSole [.Subscript o i pos'] value pos.line X.env = pure false := by rfl) (hw : swappedStores [.Subscript o i pos'] value X.env = pure none := by rfl) (h1 : (assignEach [.Subscript o i pos'] X.env).map (·.2) = [assign (.Subscript o i pos') X.env] := by rfl) : PSd X W (.Assign [.Subscript o i pos'] value pos) (sSetL ro ri rv) := by
  obtain ⟨to, po, so⟩ := ho.ex
  obtain ⟨ti, pi, si⟩ := hi.ex
  obtain ⟨tv, pv', sv⟩ := hv.ex
  refine ⟨_, ps_asg pv' (pg_sub po pi set_list ha) hsw hw h1, fun α F σ H δ S E hr hs h => ?_⟩
  refine sv α F σ H δ S _ hr hs (wpS.out h hs fun z S1 _ v H1 β F1 r1 q1 v1 h1 => ?_)
  have hs1 := hs.mono (β := β) q1.sub
  refine so (α ++ β) F1 σ H1 δ S1 _ r1 hs1 (wpS.out h1 hs1 fun x S2 _ xv H2 γ F2 r2 q2 v2 h2 => ?_)
  have hs2 := hs1.mono (β := γ) q2.sub
  refine si (α ++ β ++ γ) F2 σ H2 δ S2 _ r2 hs2 (wpS.out h2 hs2 fun y S3 _ yv H3 ε F3 r3 q3 v3 h3 => ?_)
  have hs3 := hs2.mono (β := ε) q3.sub
  cases x with
  | ptr n =>
    cases y with
    | int i =>
      dsimp only at h3
      split at h3
      · rename_i xs e1
        split at h3
        · rename_i j e2
          have v2' := v2.mono (β := ε) q3.sub
          cases v2' with
          | ptr ea =>
            obtain ⟨o1, _⟩ := r3.own _ _ _ ea e1
            obtain ⟨us, o2, o3⟩ := o1
            cases v3
            have vz := (v1.mono (β := γ) q2.sub).mono (β := ε) q3.sub
            obtain ⟨a1, a2⟩ := r3.setO (o := .lst (us.set j v)) (d := .lst (xs.set j z)) ea e1 rfl ⟨_, upd_same, o3.set vz j⟩
            refine ⟨_, us, i, j, rfl, rfl, o2, by rw [o3.length]; exact e2, ?_⟩
            exact h3 _ _ _ _ a1 a2 (hs3.mono a2.sub)
        · exact h3.elim
      · exact h3.elim
    | _ => exact h3.elim
  | _ => exact h3.elim

/-! ### displays -/
structure PPd (X : Cx) (W : WX) (pos : Pos) (ks : List (Option Expr)) (vs : List Expr) (ps : List (RE × RE)) : Prop where
  ex : ∃ trs, PPs X pos ks vs trs ∧ ∀ α F σ H δ S (Q : List (V × V) → Hp → Prop), Rel X.w X.K X.mg α F H S → Slots X.w X.K X.mg F α σ δ →
    wp X.w X.K X.mg α F H (fun F α (b : List (V × V)) (a : List (D × D)) => DVs X.w X.K X.mg F α (b.map (·.1)) (a.map (·.1)) ∧ DVs X.w X.K X.mg F α (b.map (·.2)) (a.map (·.2))) (rPairs ps δ S) Q (fun c d H' => W c d σ H') → tPairs trs σ H Q
theorem ppd_nil : PPd X W pos [] [] [] := ⟨[], pps_nil, fun α F σ H δ S Q hr hs h => h.now hr ⟨.nil, .nil⟩⟩
theorem ppd_cons {k v : Expr} {ks : List (Option Expr)} {vs : List Expr} {rk rv : RE} {ps : List (RE × RE)} (hk : PD X W k rk) (hv : PD X W v rv) (h : PPd X W pos ks vs ps) : PPd X W pos (some k :: ks) (v :: vs) ((rk, rv) :: ps) := by
  obtain ⟨tk, p1, s1⟩ := hk.ex
  obtain ⟨tv, p2, s2⟩ := hv.ex
  obtain ⟨trs, p3, s3⟩ := h.ex
  refine ⟨(tk, tv) :: trs, pps_cons p1 p2 p3, fun α F σ H δ S Q hr hs h => ?_⟩
  refine s1 α F σ H δ S _ hr hs (wp.bind h fun x S1 _ xv H1 β F1 r1 q1 v1 h1 => ?_)
  refine s2 (α ++ β) F1 σ H1 δ S1 _ r1 (hs.mono q1.sub) (wp.bind h1 fun y S2 _ yv H2 γ F2 r2 q2 v2 h2 => ?_)
  refine s3 (α ++ β ++ γ) F2 σ H2 δ S2 _ r2 ((hs.mono q1.sub).mono q2.sub) (wp.bind h2 fun zs S3 _ zv H3 ε F3 r3 q3 v3 h3 => ?_)
  exact h3.now r3 ⟨.cons ((v1.mono q2.sub).mono q3.sub) v3.1, .cons (v2.mono q3.sub) v3.2⟩
theorem keysOf : ∀ {kvs : List (D × D)} {ps : List (V × V)}, kvs.all (fun p => isKey p.1) = true → DVs wd K mg F α (ps.map (·.1)) (kvs.map (·.1)) → DVs wd K mg F α (ps.map (·.2)) (kvs.map (·.2)) → ∃ ws : List (Key × V), ps = ws.map (fun kv => (kV kv.1, kv.2)) ∧ KVs wd K mg F α ws kvs
  | [], [], _, _, _ => ⟨[], rfl, .nil⟩
  | [], _ :: _, _, h, _ => by have := h.length; simp at this
  | _ :: _, [], _, h, _ => by have := h.length; simp at this
  | (q, d) :: kvs, (x, y) :: ps, hk, h, g => by
    rw [List.all_cons, Bool.and_eq_true] at hk
    have h' : DVs wd K mg F α (x :: ps.map (·.1)) (q :: kvs.map (·.1)) := h
    have g' : DVs wd K mg F α (y :: ps.map (·.2)) (d :: kvs.map (·.2)) := g
    cases h' with
    | cons h1 h2 =>
      cases g' with
      | cons g1 g2 =>
        obtain ⟨ws, e1, e2⟩ := keysOf hk.2 h2 g2
        obtain ⟨k, ek⟩ := isKey_kD hk.1
        have ek : q = kD k := ek
        subst ek
        have := kD_DV h1
        subst this
        exact ⟨(k, y) :: ws, by rw [e1]; rfl, .cons g1 e2⟩
theorem pf_disp {ks : List (Option Expr)} {vs : List Expr} {ps : List (RE × RE)} (h : PPd X W pos ks vs ps) (hall : ks.all (·.isSome) = true := by rfl) (hl : ks.length = vs.length := by rfl) (h0 : ks ≠ [] := by intro z; cases z) (h15 : ks.length ≤ 15 := by decide) : PF X W (.Dict ks vs pos) (rDisp ps) := by
  obtain ⟨trs, p1, s1⟩ := h.ex
  refine ⟨_, pe_disp p1 hall hl h0 h15, fun α F σ H δ S Q hr hs h => fun ad had => ?_⟩
  have n := hr.notin had
  have f := hr.notF had
  unfold rDisp at h
  have hr' := hr.other (o := .dK []) n f
  refine s1 α F σ (upd H ad (.dK [])) δ S _ hr' hs ?_
  have stt : Stp α F H [] F (upd H ad (.dK [])) := Stp.refl.other had
  cases q : rPairs ps δ S with
  | err c fs S1 =>
    rw [q] at h
    intro cls dd H' β F' r1 st er
    have := stt.trans (β := []) (γ := β) (by rw [List.append_nil]; exact st)
    exact h cls dd H' β F' r1 this er
  | stuck => rw [q] at h; exact h.elim
  | ok kvs S1 =>
    rw [q] at h
    have h1 : wpF X.w X.K X.mg α F H (if kvs.all (fun p => isKey p.1) && decide (kvs.length ≤ 15) then .ok (.dct (mergeD [] kvs)) S1 else .stuck) Q _ := h
    split at h1
    · rename_i hc
      rw [Bool.and_eq_true] at hc
      intro pv H' β F' r1 st ⟨g1, g2⟩
      obtain ⟨ws, e1, e2⟩ := keysOf hc.1 g1 g2
      have st' := stt.trans (β := []) (γ := β) (by rw [List.append_nil]; exact st)
      rw [List.nil_append] at st'
      have hD : H' ad = some (.dK []) := st.frame ad _ n upd_same
      have fD : F' ad = none := st.fnew ad n f (by rw [upd_same]; exact fun z => nomatch z)
      have nD : ad ∉ α ++ β := by
        intro z
        rcases List.mem_append.mp z with z | z
        · exact n z
        · have := st.new ad z
          rw [upd_same] at this; cases this
      refine ⟨hD, ws, e1, by rw [e2.length]; exact of_decide_eq_true hc.2, ?_⟩
      exact h1 ad _ β F' (r1.other nD fD) (st'.other had) had nD fD (Own.dctK.mpr ⟨_, upd_same, KVs.merge e2 .nil⟩) rfl
    · exact h1.elim
theorem pf_dnew : PF X W (.Dict [] [] pos) (rC (.dct [])) := ⟨_, pe_dnewK, fun α F σ H δ S Q hr hs h => fun ad had => wpF.lay h hr had (Own.dctK.mpr ⟨[], upd_same, .nil⟩) rfl⟩
end
end DL

set_option Elab.async false
set_option linter.all false
set_option maxRecDepth 100000
set_option maxHeartbeats 4000000
set_option autoImplicit false
/-! Data layer, last part: defs by their names, the law's end. -/
namespace DL
open PySem PySem.Spec PyProof.Rows L2

/-- the text of a def stands under its name -/
structure Fd (K : Fg) (mg : Str → Option Value) (x : Str) (st : Stmt) (ps : List Str) : Prop where
  ex : ∃ (f : Addr) (fd : FuncData), Fun K x x st f fd ∧ mg x = some (.ref f) ∧ Binds K fd ps []
/-- a def keeps to its mirror -/
structure Fn (P : Program) (w : World) (K : Fg) (mg : Str → Option Value) (base : Heap) (x : Str) (n k : Nat) (m : Mir) : Prop where
  ex : ∃ (f : Addr) (fd : FuncData) (ps : List Str), mg x = some (.ref f) ∧ PySem.W.keepIn K (.ref f) = true ∧ Binds K fd ps [] ∧ FnG P w K mg base k f fd ps (spD w K mg n m)
section
variable {X : Cx} {W : WX} {a b c e tg : Expr} {es rest : List Expr} {ra rb rc : RE} {ba bb : RB} {rs : RA} {pos p : Pos} {wd : World} {K : Fg} {mg : Str → Option Value} {α β : List Addr} {F F1 H H1 : Hp} {S : Sto}
theorem pd_fn {x : Str} {m : Mir} {n k : Nat} (F : Fn X.prog X.w X.K X.mg X.base x n k m) (hr : Room k X.A) (hG : X.A.guards = some []) (tk : Takes X W) (ha : PDs X W (e :: es) rs) (hl : (e :: es).length = n := by rfl) (hg : Gl X x := by rfl) (hdb : (x == ("__debug__" : Str)) = false := by decide)
    (he : starEach (e :: es) X.env = (false, eval e X.env) :: starEach es X.env := by rfl) (hpl : (backTo pos (starEach es X.env)).any (·.1) = false := by rfl) : PD X W (.Call (.Name x p) (e :: es) [] pos) (rCall m rs) := by
  obtain ⟨f, fd, ps, h1, h2, h3, h4⟩ := F.ex
  exact pd_call h4 hr hG h1 h2 h3 tk ha hl hg hdb he hpl
theorem pd_gsE {x y : Str} (hm : ∃ t, X.mg x = some (.str y t)) (hg : Gl X x := by rfl) (hd : (x == ("__debug__" : Str)) = false := by decide) : PD X W (.Name x pos) (rC (.str y)) := let ⟨_, h⟩ := hm; pd_gs h hg hd
theorem pd_giE {x : Str} {i : Int} (hm : ∃ t, X.mg x = some (.int i t)) (hg : Gl X x := by rfl) (hd : (x == ("__debug__" : Str)) = false := by decide) : PD X W (.Name x pos) (rC (.int i)) := let ⟨_, h⟩ := hm; pd_gi h hg hd
theorem fun_of {x qual : Str} {st : Stmt} {f : Addr} {fd : FuncData} (F : FunD K x qual (defArgs st) (defBody st) (defScope st) [] [] f fd) : Fun K x qual st f fd := by
  obtain ⟨oc, od, dV, kV, doc, pm, an, cdv, ct, osl, e, lk, hcd, hD, _⟩ := F.ex
  rcases hD with ⟨_, rfl⟩ | ⟨z, _⟩
  · exact ⟨⟨oc, od, kV, doc, pm, an, cdv, ct, osl, e, lk, hcd⟩, F.kp⟩
  · exact absurd rfl z
/-- what a body's derivation is given -/
structure Env1 (X : Cx) (k : Nat) : Prop where
  room : Room k X.A
  gu : X.A.guards = some []
  hp : PassesOwn (model X.prog X.w) X.A X.env X.xe
theorem Env1.u1 {k : Nat} (h : Env1 X k) : X.A.units + 1 < cLine := by have := h.room.un; omega
theorem Env1.u64 {k : Nat} (h : Env1 X k) : X.A.units + 64 < cLine := by have := h.room.un; omega
theorem Env1.u80 {k : Nat} (h : Env1 X k) : X.A.units + 80 < cLine := by have := h.room.un; omega
theorem fn_mk {P : Program} {w : World} {base : Heap} {x : Str} {st : Stmt} {N ps : List Str} {k : Nat} {r : RS} (Fu : Fd K mg x st ps) (Sc : FnScope N ps (defScope st))
    (hbody : ∀ (f : Addr) (cdv : Value) (A : Around) (outer : List Env) (s : Shared) (H : Hp) (E : XK), Env1 (cxOf (L2.CX P w) P w K mg base N x (defScope st) f cdv A outer s H E) k → Takes (cxOf (L2.CX P w) P w K mg base N x (defScope st) f cdv A outer s H E) (fun cls d _ H => E cls d H) →
      PSds (cxOf (L2.CX P w) P w K mg base N x (defScope st) f cdv A outer s H E) (fun cls d _ H => E cls d H) (defBody st) r) : Fn P w K mg base x ps.length (k + 1) (mDef N.length r) := by
  obtain ⟨f, fd, h1, h2, h3⟩ := Fu.ex
  exact ⟨f, fd, ps, h2, h1.kp, h3, fn_okD h1 Sc fun cdv A outer s H E hr hG => hbody f cdv A outer s H E ⟨hr, hG, passes_of rfl⟩ (takes_of rfl rfl rfl rfl)⟩
end
end DL

set_option Elab.async false
set_option linter.all false
set_option maxRecDepth 100000
set_option maxHeartbeats 4000000
set_option autoImplicit false
/-! Data layer: the law's call. -/
namespace DL
open PySem PySem.Spec PyProof.Rows L2
section
variable {P : Program} {w : World} {K : Fg} {mg mb : Str → Option Value} {k : Nat} {fa a : Addr} {fd : FuncData} {x : Str} {m : Mir} {S1 : Shared} {us : List Value} {ns : List Int} {H : Hp}
theorem bv_len : bootBuiltins "len" = some (.builtin "len") := by decide +kernel
theorem bv_abs : bootBuiltins "abs" = some (.builtin "abs") := by decide +kernel
theorem bv_repr : bootBuiltins "repr" = some (.builtin "repr") := by decide +kernel
theorem bv_isinstance : bootBuiltins "isinstance" = some (.builtin "isinstance") := by decide +kernel
theorem bv_all : bootBuiltins "all" = some (.builtin "all") := by decide +kernel
theorem bv_any : bootBuiltins "any" = some (.builtin "any") := by decide +kernel
theorem bv_sum : bootBuiltins "sum" = some (.builtin "sum") := by decide +kernel
theorem bv_sorted : bootBuiltins "sorted" = some (.builtin "sorted") := by decide +kernel
theorem bv_min : bootBuiltins "min" = some (.builtin "min") := by decide +kernel
theorem bv_max : bootBuiltins "max" = some (.builtin "max") := by decide +kernel
theorem bv_int : bootBuiltins "int" = some (.type "int") := by decide +kernel
theorem bv_str : bootBuiltins "str" = some (.type "str") := by decide +kernel
theorem bv_bool : bootBuiltins "bool" = some (.type "bool") := by decide +kernel
theorem bv_tuple : bootBuiltins "tuple" = some (.type "tuple") := by decide +kernel
theorem bv_list : bootBuiltins "list" = some (.type "list") := by decide +kernel
theorem bv_dict : bootBuiltins "dict" = some (.type "dict") := by decide +kernel
theorem bv_set : bootBuiltins "set" = some (.type "set") := by decide +kernel
theorem bv_float : bootBuiltins "float" = some (.type "float") := by decide +kernel
def natAt (δ : Sl) (i : Nat) : Nat := match δ[i]? with
  | some (some (D.int j)) => j.natAbs
  | _ => 0
/-- what the tracked heap of a law's beginning may hold: the script alone, known to its object -/
structure Lone (K : Fg) (H : Hp) (a : Addr) : Prop where
  at_ : ∀ b, H b ≠ none → b = a
  notK : H a ≠ none → K.lookup a = none
  frz : ∀ b u, H b = some u → ∃ o xs, u = .frz o (.lst xs)
theorem Lone.off (L : Lone K H a) {b : Addr} (h : b ≠ a) : H b = none := by
  cases q : H b with
  | none => rfl
  | some u => exact absurd (L.at_ b (by rw [q]; simp)) h
abbrev lsObj (us : List Value) : Obj := { cls := .type "list", data := .seq us.toArray }
theorem Lone.space (L : Lone K H a) (ha : S1.heap.get? a = some (lsObj us)) {b : Addr} {f : Str → Option Value} (h : S1.heap.Ns b f) : (hidT S1.heap H).Ns b f := by
  obtain ⟨o, es, ep, g, d, r⟩ := h
  have hb : b ≠ a := fun z => by
    subst z
    have e : lsObj us = o := Option.some.inj (ha.symm.trans g)
    subst e
    exact nomatch d
  exact ⟨o, es, ep, hidT_get g (L.off hb), d, r⟩
theorem Lone.frag (L : Lone K H a) (KX : K.In S1.heap) : K.In (hidT S1.heap H) := fun b o e => hidT_get (KX b o e) (by
  by_cases z : b = a
  · subst z
    cases q : H b with
    | none => rfl
    | some u => exact absurd ((L.notK (by rw [q]; simp)).symm.trans e) (by simp)
  · exact L.off z)
abbrev Ended (h : Heap) (os : OsState) : Result → Shared → Prop := fun r z => r = .ok (.ret (.bool true)) ∧ OldK h z.heap ∧ z.os = os ∧ AllBare z.gens
theorem law_lone (L : Lone K H a) (KX : K.In S1.heap) (n1 : S1.heap.Ns mainGlobals mg) (n2 : S1.heap.Ns builtinsNs mb) (nb : ∀ y : Str, y ≠ "__name__" → mb y = bootBuiltins y) (n3 : S1.heap.NoLimit)
    (g0 : S1.gens = #[]) (ha : S1.heap.get? a = some (lsObj us)) (hok : HOk P w H S1.heap) (hS : SqL K H a (ns.map V.int)) (room : Room k callerA)
    (F : ∀ base : Heap, K.In base → base.Ns mainGlobals mg → Fn P w K mg base x 1 k m) (bd : mg x = some (.ref fa))
    (hm : ∃ S, m [.lst (ns.map .int)] [] = .ok (.bl true) S) : codeAny (model P w) callerA (.call (.ref fa) ⟨[.ref a], []⟩) (Ended S1.heap S1.os) S1 := by
  obtain ⟨c, i1, i2⟩ := n3
  have M : Mod K mg (hidT S1.heap H) := ⟨L.frag KX, L.space ha n1, ⟨mb, L.space ha n2, nb⟩, ⟨c, L.space ha i1, i2⟩⟩
  have e0 : Env0 P w K mg (hidT S1.heap H) callerA [] S1 H := ⟨rfl, M, fun _ _ e => of_hidT e, Nat.le_of_eq (hidT_size _ _), trivial, fun _ q => (nomatch q), hok, .of_eq g0⟩
  have sp : spD w K mg 1 m [V.ref a] H (fun v _ => v = .bl true) (fun _ _ _ => False) := by
    refine ⟨rfl, [], H, [], [.lst (ns.map .int)], ⟨Sub.refl _, rfl, List.nodup_nil, fun _ q => (nomatch q), fun j b d q => (by simp at q)⟩, .cons (.lst hS (DVs.of_ints ns)) .nil, ?_⟩
    obtain ⟨S, e⟩ := hm
    rw [e]
    intro b H' β F' _ _ hv
    cases hv
    rfl
  obtain ⟨f', fd, ps, q1, _, q2, q3⟩ := (F _ M.kin (L.space ha n1)).ex
  obtain rfl : f' = fa := by rw [q1] at bd; cases bd; rfl
  have bt : BindsTo S1 fd ⟨[.ref a], []⟩ (ps.zip [.ref a]) := q2 S1 [.ref a] KX (q3.len _ _ _ _ sp)
  refine codeAny_mono (q3.run callerA [] S1 H ⟨[.ref a], []⟩ [.ref a] [V.ref a] (fun v _ => v = .bl true) _ room rfl e0 bt (.cons rfl .nil) sp) fun r z q => ?_
  match r, q with
  | .error _, ⟨_, _, _, _, _, _, _, _, _, _, _, q⟩ => exact q.2.elim
  | .ok (.ret u), ⟨v, H', os, bare, un, hok', r', q⟩ =>
    have q : v = .bl true := q
    subst q
    have r' : u = Value.bool true := r'
    subst r'
    refine ⟨rfl, OldK.of_keep fun b o e => ?_, os, bare⟩
    by_cases z : H b = none
    · exact un.keep b o e z (fun y => nomatch y) (fun y => nomatch y)
    · obtain ⟨y, hy⟩ : ∃ y, H b = some y := by
        cases q : H b with
        | none => exact absurd q z
        | some y => exact ⟨y, rfl⟩
      obtain ⟨ob, xs, rfl⟩ := L.frz b y hy
      have o1 := (hok b _ hy).1
      have o2 := (hok' b _ (un.frzs b ob _ hy)).1
      rw [e] at o1
      exact o2.trans o1.symm
  | .ok .next, q => exact q.elim
  | .ok .brk, q => exact q.elim
  | .ok .cont, q => exact q.elim
theorem law_mir (KX : K.In S1.heap) (n1 : S1.heap.Ns mainGlobals mg) (n2 : S1.heap.Ns builtinsNs mb) (nb : ∀ y : Str, y ≠ "__name__" → mb y = bootBuiltins y) (n3 : S1.heap.NoLimit) (g0 : S1.gens = #[]) (ha : S1.heap.get? a = some (lsObj us))
    (hi : IntsAre us ns) (hl : ns.length ≤ sizeLine) (room : Room k callerA) (F : ∀ base : Heap, K.In base → base.Ns mainGlobals mg → Fn P w K mg base x 1 k m) (bd : mg x = some (.ref fa))
    (hm : ∃ S, m [.lst (ns.map .int)] [] = .ok (.bl true) S) : codeAny (model P w) callerA (.call (.ref fa) ⟨[.ref a], []⟩) (Ended S1.heap S1.os) S1 := by
  have rv := vals_ints hi
  cases hk : K.lookup a with
  | some o =>
    have e := (KX a o hk).symm.trans ha
    cases e
    exact law_lone (H := fun _ => none) ⟨fun _ q => absurd rfl q, fun q => absurd rfl q, fun _ _ q => nomatch q⟩ KX n1 n2 nb n3 g0 ha (fun _ _ q => nomatch q)
      (.inr ⟨_, us.toArray, _, hk, rfl, rfl, rfl, by rw [List.size_toArray, hi.length]; exact hl, by simpa using rv⟩) room F bd hm
  | none =>
    refine law_lone (H := upd (fun _ => none) a (.frz (lsObj us) (.lst (ns.map V.int)))) ⟨fun b q => ?_, fun _ => hk, fun b u q => ?_⟩ KX n1 n2 nb n3 g0 ha (fun b u q => ?_) (.inl (.inr ⟨_, upd_same⟩)) room F bd hm
    · by_cases z : b = a
      · exact z
      · rw [upd_ne z] at q; exact absurd rfl q
    · by_cases z : b = a
      · subst z; rw [upd_same] at q; cases q; exact ⟨_, _, rfl⟩
      · rw [upd_ne z] at q; cases q
    · by_cases z : b = a
      · subst z; rw [upd_same] at q; cases q
        exact ⟨ha, by rw [List.length_map]; exact hl, us, _, rv, ha⟩
      · rw [upd_ne z] at q; cases q
end
/-- a law's end: what is given by the head, the mirror's answer -/
theorem walkG {l : PySem.W.OpenLaw} {n k : Nat} {q : Program} {loose : List Str} {XP : (Str → Option Value) → Heap → Prop} {YP : World → Heap → Prop} {d : DefRec} {m : Mir} (hn : l.most = some n) (hs : n ≤ sizeLine) (hd : d.params.defaults = []) (hr : Room k callerA)
    (F : ∀ (w : World) (mg : Str → Option Value) (h : Heap), YP w h → h.Ns mainGlobals mg → ∃ K : Fg, K.In h ∧ ∀ base : Heap, K.In base → base.Ns mainGlobals mg → Fn l.prog w K mg base d.name 1 k m)
    (hm : ∀ ns : List Int, ns.length ≤ n → ∃ S, m [.lst (ns.map .int)] [] = .ok (.bl true) S) : PySem.W.WalkO q loose XP YP l.row.toRowW d [] (fun f vs => PySem.call f vs) :=
  Att.attach_call hn hd fun w _ z mg mb fa _ _ _ _ a us ns G Y _ _ _ hmg ha hi hl hg => by
    obtain ⟨K, KX, hF⟩ := F w mg _ Y G.T.g
    exact law_mir KX G.T.g G.T.b G.T.builtins G.T.nolimit hg ha hi (Nat.le_trans hl hs) hr hF hmg (hm ns hl)
end DL

set_option Elab.async false
set_option linter.all false
set_option maxRecDepth 100000
set_option maxHeartbeats 4000000
set_option autoImplicit false
/-! Plain part: what a mirror answers, told by what must hold of its answer. -/
namespace DL
open PySem L2
def Res.post {A : Type} (r : Res A) (Q : A → Sto → Prop) : Prop := match r with
  | .ok a S => Q a S
  | _ => False
def Out.post (o : Out) (nx : Sl → Sto → Prop) (rt : D → Sto → Prop) (bk ct : Sl → Sto → Prop) : Prop := match o with
  | .nx δ S => nx δ S
  | .rt d S => rt d S
  | .bk δ S => bk δ S
  | .ct δ S => ct δ S
  | _ => False
abbrev NoS : Sl → Sto → Prop := fun _ _ => False
abbrev NoD : D → Sto → Prop := fun _ _ => False
section
variable {A A' : Type} {r : Res A} {f : A → Sto → Res A'} {Q : A → Sto → Prop} {Q' : A' → Sto → Prop} {δ : Sl} {S : Sto} {QD : D → Sto → Prop} {QL : List D → Sto → Prop} {QB : Bool → Sto → Prop} {QS : Sl → Sto → Prop} {N B C : Sl → Sto → Prop} {T : D → Sto → Prop}
theorem Res.post.ok {a : A} (h : Q a S) : (Res.ok a S).post Q := h
theorem Res.post.ex (h : r.post Q) : ∃ a S, r = .ok a S ∧ Q a S := by
  cases r with
  | ok a S => exact ⟨a, S, rfl, h⟩
  | err => exact h.elim
  | stuck => exact h.elim
theorem Res.post.mono {Q1 : A → Sto → Prop} (h : r.post Q1) (k : ∀ a S, Q1 a S → Q a S) : r.post Q := by
  cases r with
  | ok a S => exact k a S h
  | err => exact h.elim
  | stuck => exact h.elim
theorem Res.post.of_eq {a : A} (h : r = .ok a S) (q : Q a S) : r.post Q := by rw [h]; exact q
theorem Out.post.mono {o : Out} {N1 B1 C1 : Sl → Sto → Prop} {T1 : D → Sto → Prop} (h : o.post N1 T1 B1 C1) (k1 : ∀ δ S, N1 δ S → N δ S) (k2 : ∀ d S, T1 d S → T d S) (k3 : ∀ δ S, B1 δ S → B δ S) (k4 : ∀ δ S, C1 δ S → C δ S) : o.post N T B C := by
  cases o with
  | nx δ S => exact k1 _ _ h
  | rt δ S => exact k2 _ _ h
  | bk δ S => exact k3 _ _ h
  | ct δ S => exact k4 _ _ h
  | err => exact h.elim
  | stuck => exact h.elim
theorem p_bind (h : r.post fun a S1 => (f a S1).post Q') : (r.bind f).post Q' := by
  cases r with
  | ok a S => exact h
  | err => exact h.elim
  | stuck => exact h.elim
theorem p_lift {o : Option A} {a : A} (h : o = some a) (q : Q a S) : (Res.lift o S).post Q := by rw [h]; exact q
theorem p_out {g : A → Sto → Out} (h : r.post fun a S1 => (g a S1).post N T B C) : (r.out δ g).post N T B C := by
  cases r with
  | ok a S => exact h
  | err => exact h.elim
  | stuck => exact h.elim
/-! expressions -/
theorem p_var {i : Nat} {d : D} (e : δ[i]? = some (some d)) (h : QD d S) : (rVar i δ S).post QD := by unfold rVar; rw [e]; exact h
theorem p_c {d : D} (h : QD d S) : (rC d δ S).post QD := h
theorem p_un {g : Sto → D → Option D} {a : RE} (h : (a δ S).post fun x S1 => (Res.lift (g S1 x) S1).post QD) : (rUn g a δ S).post QD := p_bind h
theorem p_bin {g : Sto → D → D → Option D} {a b : RE} (h : (a δ S).post fun x S1 => (b δ S1).post fun y S2 => (Res.lift (g S2 x y) S2).post QD) : (rBin g a b δ S).post QD := p_bind (h.mono fun _ _ q => p_bind q)
theorem p_as {g : Sto → List D → Option D} {a : RA} (h : (a δ S).post fun x S1 => (Res.lift (g S1 x) S1).post QD) : (rAs g a δ S).post QD := p_bind h
theorem p_nil (h : QL [] S) : (rNil δ S).post QL := h
theorem p_cons {a : RE} {b : RA} (h : (a δ S).post fun x S1 => (b δ S1).post fun ys S2 => QL (x :: ys) S2) : (rCons a b δ S).post QL := p_bind (h.mono fun _ _ q => p_bind (q.mono fun _ _ q => q))
theorem p_call {m : Mir} {a : RA} (h : (a δ S).post fun xs S1 => (m xs S1).post QD) : (rCall m a δ S).post QD := p_bind h
theorem p_if {c : RB} {a b : RE} (h : (c δ S).post fun k S1 => (k = true → (a δ S1).post QD) ∧ (k = false → (b δ S1).post QD)) : (rIf c a b δ S).post QD := p_bind (h.mono fun k _ q => by
  cases k with
  | true => exact q.1 rfl
  | false => exact q.2 rfl)
theorem p_own {a : RE} (h : (a δ S).post fun d S1 => QD (.ptr S1.length) (S1 ++ [d])) : (rOwn a δ S).post QD := p_bind (h.mono fun _ _ q => q)
theorem p_tup {a : RA} (h : (a δ S).post fun xs S1 => xs.length ≤ sizeLine ∧ QD (.tup xs) S1) : (rTup a δ S).post QD := p_bind (h.mono fun _ _ q => by rw [if_pos q.1]; exact q.2)
theorem p_lst {a : RA} (h : (a δ S).post fun xs S1 => xs.length ≤ sizeLine ∧ QD (.lst xs) S1) : (rLst a δ S).post QD := p_bind (h.mono fun _ _ q => by rw [if_pos q.1]; exact q.2)
theorem p_keep {a : RE} (h : (a δ S).post fun d S1 => ∃ ds, d = .lst ds ∧ QD (.lst ds) S1) : (rKeep a δ S).post QD := p_bind (h.mono fun d _ ⟨ds, e, q⟩ => by subst e; exact q)
theorem p_tru {a : RE} (h : (a δ S).post fun d S1 => (Res.lift (truth S1 d) S1).post QB) : (bTru a δ S).post QB := p_bind h
theorem p_and {a b : RB} (h : (a δ S).post fun k S1 => (k = true → (b δ S1).post QB) ∧ (k = false → QB false S1)) : (bAnd a b δ S).post QB := p_bind (h.mono fun k _ q => by
  cases k with
  | true => exact q.1 rfl
  | false => exact q.2 rfl)
theorem p_or {a b : RB} (h : (a δ S).post fun k S1 => (k = true → QB true S1) ∧ (k = false → (b δ S1).post QB)) : (bOr a b δ S).post QB := p_bind (h.mono fun k _ q => by
  cases k with
  | true => exact q.1 rfl
  | false => exact q.2 rfl)
theorem p_not {a : RB} (h : (a δ S).post fun k S1 => QB (!k) S1) : (bNot a δ S).post QB := p_bind (h.mono fun _ _ q => q)
theorem p_val {a : RE} (h : (a δ S).post fun d S1 => ∃ k, d = .bl k ∧ QB k S1) : (bVal a δ S).post QB := p_bind (h.mono fun _ _ ⟨k, e, q⟩ => by subst e; exact q)
theorem p_rand {a b : RE} (h : (a δ S).post fun x S1 => ∃ k, truth S1 x = some k ∧ (k = true → (b δ S1).post QD) ∧ (k = false → QD x S1)) : (rAnd a b δ S).post QD := p_bind (h.mono fun x S1 ⟨k, e, q⟩ => p_bind (p_lift e (by
  cases k with
  | true => exact q.1 rfl
  | false => exact q.2 rfl)))
theorem p_ror {a b : RE} (h : (a δ S).post fun x S1 => ∃ k, truth S1 x = some k ∧ (k = true → QD x S1) ∧ (k = false → (b δ S1).post QD)) : (rOr a b δ S).post QD := p_bind (h.mono fun x S1 ⟨k, e, q⟩ => p_bind (p_lift e (by
  cases k with
  | true => exact q.1 rfl
  | false => exact q.2 rfl)))
theorem p_rnot {a : RE} (h : (a δ S).post fun x S1 => ∃ k, truth S1 x = some k ∧ QD (.bl (!k)) S1) : (rNot a δ S).post QD := p_bind (h.mono fun x S1 ⟨k, e, q⟩ => p_bind (p_lift e q))
theorem p_chain {g g' : Sto → D → D → Option D} {a b c : RE} (h : (a δ S).post fun x S1 => (b δ S1).post fun y S2 => ∃ k, g S2 x y = some (.bl k) ∧ (k = true → (c δ S2).post fun u S4 => (Res.lift (g' S4 y u) S4).post QD) ∧ (k = false → QD (.bl false) S2)) : (rChain g g' a b c δ S).post QD :=
  p_bind (h.mono fun x S1 q => p_bind (q.mono fun y S2 ⟨k, e, q⟩ => p_bind (p_lift e (by
    cases k with
    | true => exact p_bind (q.1 rfl)
    | false => exact q.2 rfl))))
theorem p_meth {T : String} {g : Sto → D → List D → Option (D × Sto)} {a : RE} {as : RA} (h : (a δ S).post fun x S1 => isTy T S1 x = true ∧ (as δ S1).post fun ys S2 => ∃ z S3, g S2 x ys = some (z, S3) ∧ QD z S3) : (rMeth T g a as δ S).post QD :=
  p_bind (h.mono fun x S1 ⟨e, q⟩ => by rw [if_pos e]; exact p_bind (q.mono fun ys S2 ⟨z, S3, e, q⟩ => by rw [e]; exact q))
/-! statements -/
theorem s_next (h : N δ S) : (sNext δ S).post N T B C := h
theorem s_seq {a b : RS} (h : (a δ S).post (fun δ1 S1 => (b δ1 S1).post N T B C) T B C) : (sSeq a b δ S).post N T B C := by
  unfold sSeq
  cases q : a δ S with
  | nx δ1 S1 => rw [q] at h; exact h
  | _ => rw [q] at h; exact h
theorem s_asg {e : RE} {g : RG} (h : (e δ S).post fun d S1 => (g d δ S1).post fun δ1 S2 => N δ1 S2) : (sAsg e g δ S).post N T B C := p_out (h.mono fun _ _ q => p_out (q.mono fun _ _ q => q))
theorem s_name {i : Nat} {d : D} (hi : i < δ.length) (h : QS (δ.set i (some d)) S) : (gName i d δ S).post QS := by unfold gName; rw [if_pos hi]; exact h
theorem s_gtup {u : List D → Sl → Sto → Res Sl} {d : D} {ds : List D} (e : deref S d = .tup ds) (h : (u ds δ S).post QS) : (gTup u d δ S).post QS := by unfold gTup; rw [e]; exact h
theorem s_gunl {u : List D → Sl → Sto → Res Sl} {d : D} {ds : List D} (e : deref S d = .lst ds) (h : (u ds δ S).post QS) : (gUnl u d δ S).post QS := by unfold gUnl; rw [e]; exact h
theorem s_gnil (h : QS δ S) : (gNil [] δ S).post QS := h
theorem s_gcons {g : RG} {u : List D → Sl → Sto → Res Sl} {d : D} {r : List D} (h : (g d δ S).post fun δ1 S1 => (u r δ1 S1).post QS) : (gCons g u (d :: r) δ S).post QS := p_bind h
theorem s_expr {e : RE} (h : (e δ S).post fun _ S1 => N δ S1) : (sExpr e δ S).post N T B C := p_out (h.mono fun _ _ q => q)
theorem s_ret {e : RE} (h : (e δ S).post fun d S1 => T d S1) : (sRet e δ S).post N T B C := p_out (h.mono fun _ _ q => q)
theorem s_if {c : RB} {a b : RS} (h : (c δ S).post fun k S1 => (k = true → (a δ S1).post N T B C) ∧ (k = false → (b δ S1).post N T B C)) : (sIf c a b δ S).post N T B C := p_out (h.mono fun k _ q => by
  cases k with
  | true => exact q.1 rfl
  | false => exact q.2 rfl)
theorem s_brk (h : B δ S) : (sBreak δ S).post N T B C := h
theorem s_cont (h : C δ S) : (sCont δ S).post N T B C := h
theorem s_par {i j : Nat} {a : RA} (h : (a δ S).post fun xs S1 => ∃ x y, xs = [x, y] ∧ i < δ.length ∧ j < δ.length ∧ N ((δ.set i (some x)).set j (some y)) S1) : (sPar i j a δ S).post N T B C :=
  p_out (h.mono fun xs S1 ⟨x, y, e, h1, h2, q⟩ => by subst e; dsimp only; rw [if_pos ⟨h1, h2⟩]; exact q)
theorem s_for {it : RA} {g : RG} {b : RS} (h : (it δ S).post fun xs S1 => (forL g b xs δ S1).post N T B C) : (sFor it g b δ S).post N T B C := p_out h
/-- the loop's law: I holds ahead of each turn -/
theorem s_forL {g : RG} {b : RS} (I : List D → Sl → Sto → Prop) (step : ∀ x xs δ S, I (x :: xs) δ S → (g x δ S).post fun δ1 S1 => (b δ1 S1).post (fun δ2 S2 => I xs δ2 S2) T N fun δ2 S2 => I xs δ2 S2) (fin : ∀ δ S, I [] δ S → N δ S) :
    ∀ (xs : List D) (δ : Sl) (S : Sto), I xs δ S → (forL g b xs δ S).post N T B C
  | [], δ, S, h => fin δ S h
  | x :: xs, δ, S, h => by
    unfold forL
    refine p_out ((step x xs δ S h).mono fun δ1 S1 q => ?_)
    cases e : b δ1 S1 with
    | nx δ2 S2 => rw [e] at q; exact s_forL I step fin xs δ2 S2 q
    | ct δ2 S2 => rw [e] at q; exact s_forL I step fin xs δ2 S2 q
    | bk δ2 S2 => rw [e] at q; exact q
    | rt d S2 => rw [e] at q; exact q
    | err => rw [e] at q; exact q.elim
    | stuck => rw [e] at q; exact q.elim
theorem s_while {fuel : Sl → Sto → Nat} {c : RB} {b : RS} (h : (whileL c b (fuel δ S) δ S).post N T B C) : (sWhile fuel c b δ S).post N T B C := h
/-- I n: at most n turns are left -/
theorem s_whileL {c : RB} {b : RS} (I : Nat → Sl → Sto → Prop) (step : ∀ n δ S, I n δ S → (c δ S).post fun k S1 => (k = true → ∃ m, n = m + 1 ∧ (b δ S1).post (fun δ2 S2 => I m δ2 S2) T N fun δ2 S2 => I m δ2 S2) ∧ (k = false → N δ S1)) :
    ∀ (n m : Nat) (δ : Sl) (S : Sto), I n δ S → n < m → (whileL c b m δ S).post N T B C
  | _, 0, _, _, _, hm => absurd hm (Nat.not_lt_zero _)
  | n, m + 1, δ, S, h, hm => by
    unfold whileL
    refine p_out ((step n δ S h).mono fun k S1 q => ?_)
    cases k with
    | false => exact q.2 rfl
    | true =>
      obtain ⟨n', rfl, q'⟩ := q.1 rfl
      clear q
      rw [if_pos rfl]
      cases e : b δ S1 with
      | nx δ2 S2 => rw [e] at q'; exact s_whileL I step n' m δ2 S2 q' (by omega)
      | ct δ2 S2 => rw [e] at q'; exact s_whileL I step n' m δ2 S2 q' (by omega)
      | bk δ2 S2 => rw [e] at q'; exact q'
      | rt d S2 => rw [e] at q'; exact q'
      | err => rw [e] at q'; exact q'.elim
      | stuck => rw [e] at q'; exact q'.elim
/-! walks -/
theorem p_seq {a : RE} (h : (a δ S).post fun x S1 => (∃ ds, x = .lst ds ∧ QL ds S1) ∨ (∃ ds, x = .tup ds ∧ QL ds S1) ∨ ∃ z, x = .str z ∧ QL (z.cps.toList.map fun c => .str ⟨#[c]⟩) S1) : (rSeq a δ S).post QL :=
  p_bind (h.mono fun x S1 q => by rcases q with ⟨ds, e, q⟩ | ⟨ds, e, q⟩ | ⟨z, e, q⟩ <;> subst e <;> exact q)
theorem p_enum {a : RA} (h : (a δ S).post fun xs S1 => ∃ ds, xs = [.lst ds] ∧ QL (enumD 0 ds) S1) : (rEnum a δ S).post QL := p_bind (h.mono fun _ _ ⟨ds, e, q⟩ => by subst e; exact q)
theorem p_range1 {a : RA} (h : (a δ S).post fun xs S1 => ∃ j, xs = [.int j] ∧ -(2 ^ 62) ≤ j ∧ j < 2 ^ 62 ∧ QL (rangeD 0 j) S1) : (rRange a δ S).post QL := p_bind (h.mono fun _ _ ⟨j, e, h1, h2, q⟩ => by subst e; dsimp only; rw [if_pos ⟨h1, h2⟩]; exact q)
theorem p_range2 {a : RA} (h : (a δ S).post fun xs S1 => ∃ i j, xs = [.int i, .int j] ∧ -(2 ^ 62) ≤ i ∧ i < 2 ^ 62 ∧ -(2 ^ 62) ≤ j ∧ j < 2 ^ 62 ∧ QL (rangeD i j) S1) : (rRange a δ S).post QL :=
  p_bind (h.mono fun _ _ ⟨i, j, e, h1, h2, h3, h4, q⟩ => by subst e; dsimp only; rw [if_pos ⟨h1, h2, h3, h4⟩]; exact q)
/-- the loop's law of a comprehension: I left done -/
theorem p_lcL {g : RG} {t : RB} {e : RE} (I : List D → List D → Sto → Prop) (step : ∀ x xs acc S, I (x :: xs) acc S → (g x δ S).post fun δ1 S1 => (t δ1 S1).post fun k S2 => (k = true → (e δ1 S2).post fun y S3 => I xs (acc ++ [y]) S3) ∧ (k = false → I xs acc S2)) :
    ∀ (xs acc : List D) (S : Sto), I xs acc S → (lcL g t e xs δ S).post fun ys S' => I [] (acc ++ ys) S'
  | [], acc, S, h => by
    show I [] (acc ++ []) S
    rw [List.append_nil]; exact h
  | x :: xs, acc, S, h => by
    unfold lcL
    refine p_bind ((step x xs acc S h).mono fun δ1 S1 q => p_bind (q.mono fun k S2 q => ?_))
    cases k with
    | true =>
      rw [if_pos rfl]
      refine p_bind ((q.1 rfl).mono fun y S3 q => p_bind ((p_lcL I step xs (acc ++ [y]) S3 q).mono fun ys S4 q => ?_))
      show I [] (acc ++ y :: ys) S4
      rw [List.append_assoc] at q
      exact q
    | false => exact p_lcL I step xs acc S2 (q.2 rfl)
theorem p_lc {it : RA} {g : RG} {vs : List Nat} {t : RB} {e : RE} (h : (it δ S).post fun xs S1 => (lcL g t e xs (wipeD δ vs) S1).post fun ys S2 => ys.length ≤ sizeLine ∧ QD (.lst ys) S2) : (rLc it g vs t e δ S).post QD :=
  p_bind (h.mono fun xs S1 q => p_bind (by
    obtain ⟨ys, S2, e1, e2⟩ := q.ex
    rw [e1]
    show (if ys.length ≤ sizeLine then Res.ok (D.lst ys) S2 else .stuck).post QD
    rw [if_pos e2.1]; exact e2.2))
theorem p_yes (h : QB true S) : (bYes δ S).post QB := h
/-! a def -/
theorem m_def {n : Nat} {b : RS} {ds : List D} (h : (b (ds.map some ++ List.replicate (n - ds.length) none) S).post
    (fun _ S1 => closedL S.length (S1.take S.length) = true ∧ QD .non (S1.take S.length)) (fun d S1 => (D.closed S.length d && closedL S.length (S1.take S.length)) = true ∧ QD d (S1.take S.length)) NoS NoS) : (mDef n b ds S).post QD := by
  unfold mDef
  cases q : b (ds.map some ++ List.replicate (n - ds.length) none) S with
  | nx δ S1 => rw [q] at h; dsimp only; rw [if_pos h.1]; exact h.2
  | rt d S1 => rw [q] at h; dsimp only; rw [if_pos h.1]; exact h.2
  | _ => rw [q] at h; exact h.elim
end
end DL

set_option Elab.async false
set_option linter.all false
set_option maxRecDepth 100000
set_option maxHeartbeats 4000000
set_option autoImplicit false
/-! Plain part: operations on what is known. -/
namespace DL
open PySem L2
section
variable {S : Sto} {i j : Int} {x y : Str} {b c : Bool} {Q : D → Sto → Prop} {QB : Bool → Sto → Prop}
theorem o_add (h : Q (.int (i + j)) S) : (Res.lift (gAdd S (.int i) (.int j)) S).post Q := h
theorem o_sub (h : Q (.int (i - j)) S) : (Res.lift (gSub S (.int i) (.int j)) S).post Q := h
theorem o_mul (f : mulFits i j = true) (h : Q (.int (i * j)) S) : (Res.lift (gMul S (.int i) (.int j)) S).post Q := p_lift (by unfold gMul; dsimp only; rw [if_pos f]) h
theorem o_mod (f : j ≠ 0) (h : Q (.int (i.fmod j)) S) : (Res.lift (gMod S (.int i) (.int j)) S).post Q := p_lift (by unfold gMod; dsimp only; rw [if_pos f]) h
theorem o_div (f : j ≠ 0 ∧ j.natAbs.log2 < 9000) (h : Q (.int (i.fdiv j)) S) : (Res.lift (gDiv S (.int i) (.int j)) S).post Q := p_lift (by unfold gDiv; dsimp only; rw [if_pos f]) h
theorem o_pow (f : 0 ≤ j ∧ j ≤ 1000000 ∧ i.natAbs < 2 ^ 64) (h : Q (.int (i ^ j.toNat)) S) : (Res.lift (gPow S (.int i) (.int j)) S).post Q := p_lift (by unfold gPow; dsimp only; rw [if_pos ⟨f.1, .inl f.2⟩]) h
theorem o_powW (f : 0 ≤ j) (g : (PySem.Builtin.Int.intBits i : Int) * j ≤ 2 ^ 27) (h : Q (.int (i ^ j.toNat)) S) : (Res.lift (gPow S (.int i) (.int j)) S).post Q := p_lift (by unfold gPow; dsimp only; rw [if_pos ⟨f, .inr g⟩]) h
theorem o_neg (h : Q (.int (-i)) S) : (Res.lift (gNeg S (.int i)) S).post Q := h
theorem o_lt (h : Q (.bl (decide (i < j))) S) : (Res.lift (gLt S (.int i) (.int j)) S).post Q := h
theorem o_le (h : Q (.bl (decide (i ≤ j))) S) : (Res.lift (gLe S (.int i) (.int j)) S).post Q := h
theorem o_gt (h : Q (.bl (decide (j < i))) S) : (Res.lift (gGt S (.int i) (.int j)) S).post Q := h
theorem o_ge (h : Q (.bl (decide (j ≤ i))) S) : (Res.lift (gGe S (.int i) (.int j)) S).post Q := h
theorem o_eqg {d e : D} {u v : PyData} (h1 : toPy S (deref S d) = some u) (h2 : toPy S (deref S e) = some v) (h3 : SeqAt.shaped u = true) (h4 : SeqAt.shaped v = true) (h : Q (.bl (PyData.eqv u v)) S) : (Res.lift (gEq S d e) S).post Q :=
  p_lift (by unfold gEq eqD; rw [h1, h2]; dsimp only; rw [h3, h4]; rfl) h
theorem o_neg_ {d e : D} {u v : PyData} (h1 : toPy S (deref S d) = some u) (h2 : toPy S (deref S e) = some v) (h3 : SeqAt.shaped u = true) (h4 : SeqAt.shaped v = true) (h : Q (.bl (!PyData.eqv u v)) S) : (Res.lift (gNe S d e) S).post Q :=
  p_lift (by unfold gNe eqD; rw [h1, h2]; dsimp only; rw [h3, h4]; rfl) h
theorem shaped_int : SeqAt.shaped (.int i) = true := by unfold SeqAt.shaped; simp [PyData.canLay0, PyData.depth]
theorem shaped_bl : SeqAt.shaped (.bool b) = true := by unfold SeqAt.shaped; simp [PyData.canLay0, PyData.depth]
theorem shaped_non : SeqAt.shaped .none = true := by unfold SeqAt.shaped; simp [PyData.canLay0, PyData.depth]
theorem shaped_str (h : PyData.strOk x = true) : SeqAt.shaped (.str x) = true := by unfold SeqAt.shaped; simp [PyData.canLay0, PyData.depth, h]
theorem o_eqI (h : Q (.bl (i == j)) S) : (Res.lift (gEq S (.int i) (.int j)) S).post Q := o_eqg rfl rfl shaped_int shaped_int (by simpa [PyData.eqv] using h)
theorem o_neI (h : Q (.bl (!(i == j))) S) : (Res.lift (gNe S (.int i) (.int j)) S).post Q := o_neg_ rfl rfl shaped_int shaped_int (by simpa [PyData.eqv] using h)
theorem o_eqS (h1 : PyData.strOk x = true) (h2 : PyData.strOk y = true) (h : Q (.bl (x == y)) S) : (Res.lift (gEq S (.str x) (.str y)) S).post Q := o_eqg rfl rfl (shaped_str h1) (shaped_str h2) (by simpa [PyData.eqv] using h)
theorem o_neS (h1 : PyData.strOk x = true) (h2 : PyData.strOk y = true) (h : Q (.bl (!(x == y))) S) : (Res.lift (gNe S (.str x) (.str y)) S).post Q := o_neg_ rfl rfl (shaped_str h1) (shaped_str h2) (by simpa [PyData.eqv] using h)
theorem o_abs (h : Q (.int i.natAbs) S) : (Res.lift (gAbs S [.int i]) S).post Q := p_lift (a := .int i.natAbs) (by unfold gAbs; dsimp only; congr 2; omega) h
theorem o_tru (h : QB b S) : (Res.lift (truth S (.bl b)) S).post QB := h
theorem o_ixT {xs : List D} {d : D} (e : atI xs i = some d) (h : Q d S) : (Res.lift (gIx S (.tup xs) (.int i)) S).post Q := p_lift e h
theorem o_ixL {xs : List D} {d : D} (e : atI xs i = some d) (h : Q d S) : (Res.lift (gIx S (.lst xs) (.int i)) S).post Q := p_lift e h
theorem p_true {A B : Prop} (h : A) : (true = true → A) ∧ (true = false → B) := ⟨fun _ => h, fun z => nomatch z⟩
theorem p_false {A B : Prop} (h : B) : (false = true → A) ∧ (false = false → B) := ⟨fun z => (nomatch z), fun _ => h⟩
theorem p_ex {A : Type} {x : A} {R T : A → Prop} (e : R x) (h : T x) : ∃ x, R x ∧ T x := ⟨x, e, h⟩
theorem p_ex2 {A B : Type} {x : A} {y : B} {R T : A → B → Prop} (e : R x y) (h : T x y) : ∃ x y, R x y ∧ T x y := ⟨x, y, e, h⟩
theorem p_var2 {i : Nat} {δ : Sl} (h : ∃ d, δ[i]? = some (some d) ∧ Q d S) : (rVar i δ S).post Q := let ⟨_, e, q⟩ := h; p_var e q
theorem p_isT {k : Bool} {A B : Prop} (e : k = true) (h : A) : (k = true → A) ∧ (k = false → B) := by subst e; exact p_true h
theorem p_isF {k : Bool} {A B : Prop} (e : k = false) (h : B) : (k = true → A) ∧ (k = false → B) := by subst e; exact p_false h
end
local macro_rules | `(tactic| walk_at "1") => `(tactic| with_reducible first
  | refine s_seq ?_ | refine s_asg ?_ | refine s_ret ?_ | refine s_if ?_ | refine s_expr ?_ | refine s_next ?_ | refine s_brk ?_ | refine s_cont ?_ | refine s_for ?_ | refine s_while ?_
  | refine p_c ?_ | refine p_bin ?_ | refine p_as ?_ | refine p_cons ?_ | refine p_nil ?_ | refine p_un ?_ | refine p_call ?_ | refine p_if ?_ | refine p_own ?_
  | refine p_keep ?_ | refine p_tru ?_ | refine p_and ?_ | refine p_or ?_ | refine p_not ?_ | refine p_val ?_ | refine p_rand ?_ | refine p_ror ?_ | refine p_rnot ?_ | refine p_chain ?_
  | refine o_add ?_ | refine o_sub ?_ | refine o_lt ?_ | refine o_le ?_ | refine o_gt ?_ | refine o_ge ?_ | refine o_neg ?_ | refine o_eqI ?_ | refine o_neI ?_ | refine o_abs ?_ | refine o_tru ?_ | refine p_true ?_ | refine p_false ?_
  | refine s_par ?_ | refine p_yes ?_ | refine p_lc ?_ | refine p_seq ?_ | refine s_gnil ?_ | refine s_gcons ?_)
local macro_rules | `(tactic| walk_at "2") => `(tactic| first
  | walk_at "1"
  | (with_reducible refine p_var2 ?_)
  | ((with_reducible refine s_name ?_ ?_); (· exact Nat.le_of_ble_eq_true rfl); dsimp only [List.set_cons_zero, List.set_cons_succ])
  | (with_reducible refine p_tup ?_) | ((with_reducible refine ⟨?_, ?_⟩); (· exact Nat.le_of_ble_eq_true rfl))
  | ((with_reducible refine p_ex2 (x := ?_) (y := ?_) ?_ ?_); rotate_left; rotate_left; (· rfl); refine ⟨?_, ?_, ?_⟩; (· exact Nat.le_of_ble_eq_true rfl); (· exact Nat.le_of_ble_eq_true rfl); dsimp only [List.set_cons_zero, List.set_cons_succ])
  | ((with_reducible refine p_isT ?_ ?_); (· rfl)) | ((with_reducible refine p_isF ?_ ?_); (· rfl))
  | ((with_reducible refine p_ex (x := ?_) ?_ ?_); rotate_left; (· rfl)))
/-! a trial: the greatest common divisor -/
example (a b : Int) (S : Sto) : ((rBin gAdd (rVar 0) (rC (.int 3))) [some (.int a), some (.int b)] S).post fun d S' => d = .int (a + 3) ∧ S' = S := by
  repeat walk_at "2"
  exact ⟨rfl, rfl⟩
end DL

set_option Elab.async false
set_option linter.all false
set_option maxRecDepth 100000
set_option maxHeartbeats 4000000
set_option autoImplicit false
/-! Plain part: comprehensions that leave the store, answers that leave it. -/
namespace DL
open PySem L2
theorem lcL_map {i : Nat} {e : RE} {f : D → D} {δ : Sl} {S : Sto} (hi : i < δ.length) : ∀ {xs : List D}, (∀ x ∈ xs, e (δ.set i (some x)) S = .ok (f x) S) → lcL (gName i) bYes e xs δ S = .ok (xs.map f) S
  | [], _ => rfl
  | x :: xs, h => by
    unfold lcL gName
    rw [if_pos hi]
    show (e (δ.set i (some x)) S).bind _ = _
    rw [h x List.mem_cons_self]
    show (lcL (gName i) bYes e xs δ S).bind _ = _
    rw [lcL_map hi fun y hy => h y (List.mem_cons_of_mem _ hy)]
    rfl
theorem lcL_filter {i : Nat} {t : RB} {e : RE} {p : D → Bool} {δ : Sl} {S : Sto} (hi : i < δ.length) : ∀ {xs : List D}, (∀ x ∈ xs, t (δ.set i (some x)) S = .ok (p x) S) → (∀ x ∈ xs, e (δ.set i (some x)) S = .ok x S) → lcL (gName i) t e xs δ S = .ok (xs.filter p) S
  | [], _, _ => rfl
  | x :: xs, h, he => by
    unfold lcL gName
    rw [if_pos hi]
    show (t (δ.set i (some x)) S).bind _ = _
    rw [h x List.mem_cons_self]
    have ih := lcL_filter hi (fun y hy => h y (List.mem_cons_of_mem _ hy)) (fun y hy => he y (List.mem_cons_of_mem _ hy))
    rw [List.filter_cons]
    cases q : p x with
    | true =>
      show (e (δ.set i (some x)) S).bind _ = _
      rw [he x List.mem_cons_self]
      show (lcL (gName i) t e xs δ S).bind _ = _
      rw [ih]
      rfl
    | false =>
      show lcL (gName i) t e xs δ S = _
      rw [ih]
      rfl
/-- an answer that leaves the store as it is -/
theorem same_of {m : Mir} {ds : List D} {d : D} {S : Sto} (h : (m ds S).post fun z S' => z = d ∧ S' = S) : m ds S = .ok d S := by
  obtain ⟨a, S1, e, rfl, rfl⟩ := h.ex
  exact e
theorem exact_of {A : Type} {r : Res A} {a : A} {S : Sto} (h : r.post fun z S' => z = a ∧ S' = S) : r = .ok a S := by
  obtain ⟨a, S1, e, rfl, rfl⟩ := h.ex
  exact e
/-- a store in which nothing that is made now is told -/
def Sane (S : Sto) : Prop := closedL S.length S = true
theorem m_defS {n : Nat} {b : RS} {ds : List D} {S : Sto} {d : D} (hS : Sane S) (hd : D.closed S.length d = true) (h : (b (ds.map some ++ List.replicate (n - ds.length) none) S).post NoS (fun z S1 => z = d ∧ S1 = S) NoS NoS) : mDef n b ds S = .ok d S :=
  same_of (m_def (h.mono (fun _ _ z => z.elim) (fun z S1 ⟨e1, e2⟩ => by
    subst e1 e2
    rw [List.take_length, hd, show closedL S1.length S1 = true from hS]
    exact ⟨rfl, rfl, rfl⟩) (fun _ _ z => z) (fun _ _ z => z)))
theorem m_defQ {n : Nat} {b : RS} {ds : List D} {S : Sto} {Q : D → Prop} (hS : Sane S) (hd : ∀ d, Q d → D.closed S.length d = true) (h : (b (ds.map some ++ List.replicate (n - ds.length) none) S).post NoS (fun z S1 => Q z ∧ S1 = S) NoS NoS) : (mDef n b ds S).post fun d S' => Q d ∧ S' = S :=
  m_def (h.mono (fun _ _ z => z.elim) (fun z S1 ⟨e1, e2⟩ => by
    subst e2
    rw [List.take_length, hd z e1, show closedL S1.length S1 = true from hS]
    exact ⟨rfl, e1, rfl⟩) (fun _ _ z => z) (fun _ _ z => z))
theorem fits_of {i j : Int} {a b : Nat} (h1 : i.natAbs < 2 ^ a) (h2 : j.natAbs < 2 ^ b) (h : a + b ≤ 1000000) : mulFits i j = true := by
  have lg : ∀ {n k : Nat}, n < 2 ^ k → n.log2 ≤ k := fun {n k} hn => by
    by_cases z : n = 0
    · subst z; simp
    · exact Nat.le_of_lt ((Nat.log2_lt z).mpr hn)
  have l1 := lg h1
  have l2 := lg h2
  unfold mulFits
  rw [Bool.or_eq_true]
  refine .inl ?_
  by_cases e : a + b < 1000000
  · exact decide_eq_true (by omega)
  · refine decide_eq_true ?_
    by_cases z : i.natAbs = 0
    · rw [z]
      by_cases y : b = 0
      · subst y
        have : j.natAbs.log2 = 0 := by omega
        simp [this]
      · by_cases w : j.natAbs = 0
        · rw [w]; decide
        · have := (Nat.log2_lt w).mpr h2
          simp only [Nat.log2_zero]; omega
    · have := (Nat.log2_lt z).mpr h1
      omega
theorem fits_l {i j : Int} (h : i.natAbs < 2 ^ 64) : mulFits i j = true := by
  unfold mulFits
  rw [decide_eq_true h, Bool.true_or, Bool.or_true]
theorem fits_r {i j : Int} (h : j.natAbs < 2 ^ 64) : mulFits i j = true := by
  unfold mulFits
  rw [decide_eq_true h, Bool.or_true, Bool.or_true]
theorem log_of {j : Int} {b : Nat} (h : j.natAbs < 2 ^ b) (hb : b < 9000) : j.natAbs.log2 < 9000 := by
  by_cases z : j.natAbs = 0
  · rw [z]; decide
  · have := (Nat.log2_lt z).mpr h
    omega
theorem closed_ints : ∀ {n : Nat} {ns : List Int}, closedL n (ns.map .int) = true
  | _, [] => rfl
  | n, i :: r => by unfold List.map closedL; rw [closed_ints]; rfl
theorem toPys_ints {S : Sto} : ∀ ns : List Int, toPys S (ns.map .int) = some (ns.map .int)
  | [] => rfl
  | i :: r => by unfold List.map toPys toPy; rw [toPys_ints r]
theorem eqvAll_ints : ∀ ns ms : List Int, PyData.eqvAll (ns.map .int) (ms.map .int) = decide (ns = ms)
  | [], [] => by simp [PyData.eqvAll]
  | [], _ :: _ => by simp [PyData.eqvAll]
  | _ :: _, [] => by simp [PyData.eqvAll]
  | a :: r, b :: q => by simp [PyData.eqvAll, PyData.eqv, eqvAll_ints r q, Bool.beq_eq_decide_eq]
theorem lay_ints : ∀ ns : List Int, PyData.canLayAll0 (ns.map .int) = true ∧ PyData.depthAll (ns.map .int) = 0
  | [] => ⟨by simp [PyData.canLayAll0], by simp [PyData.depthAll]⟩
  | a :: r => by
    obtain ⟨h1, h2⟩ := lay_ints r
    exact ⟨by simp [PyData.canLayAll0, PyData.canLay0, h1], by simp [PyData.depthAll, PyData.depth, h2]⟩
theorem shaped_ints (ns : List Int) : SeqAt.shaped (.list (ns.map .int)) = true ∧ SeqAt.shaped (.tuple (ns.map .int)) = true := by
  obtain ⟨h1, h2⟩ := lay_ints ns
  constructor <;> · unfold SeqAt.shaped; simp [PyData.canLay0, PyData.depth, h1, h2]
theorem o_eqIs {S : Sto} {ns ms : List Int} {Q : D → Sto → Prop} (h : Q (.bl (decide (ns = ms))) S) : (Res.lift (gEq S (.lst (ns.map .int)) (.lst (ms.map .int))) S).post Q :=
  o_eqg (u := .list (ns.map .int)) (v := .list (ms.map .int)) (by show (toPys S (ns.map .int)).map PyData.list = _; rw [toPys_ints]; rfl) (by show (toPys S (ms.map .int)).map PyData.list = _; rw [toPys_ints]; rfl) (shaped_ints ns).1 (shaped_ints ms).1 (by simpa [PyData.eqv, eqvAll_ints] using h)
theorem o_neIs {S : Sto} {ns ms : List Int} {Q : D → Sto → Prop} (h : Q (.bl (!decide (ns = ms))) S) : (Res.lift (gNe S (.lst (ns.map .int)) (.lst (ms.map .int))) S).post Q :=
  o_neg_ (u := .list (ns.map .int)) (v := .list (ms.map .int)) (by show (toPys S (ns.map .int)).map PyData.list = _; rw [toPys_ints]; rfl) (by show (toPys S (ms.map .int)).map PyData.list = _; rw [toPys_ints]; rfl) (shaped_ints ns).1 (shaped_ints ms).1 (by simpa [PyData.eqv, eqvAll_ints] using h)
theorem o_eqTs {S : Sto} {ns ms : List Int} {Q : D → Sto → Prop} (h : Q (.bl (decide (ns = ms))) S) : (Res.lift (gEq S (.tup (ns.map .int)) (.tup (ms.map .int))) S).post Q :=
  o_eqg (u := .tuple (ns.map .int)) (v := .tuple (ms.map .int)) (by show (toPys S (ns.map .int)).map PyData.tuple = _; rw [toPys_ints]; rfl) (by show (toPys S (ms.map .int)).map PyData.tuple = _; rw [toPys_ints]; rfl) (shaped_ints ns).2 (shaped_ints ms).2 (by simpa [PyData.eqv, eqvAll_ints] using h)
theorem rangeD_nat (j : Nat) : rangeD 0 j = (List.range j).map fun (i : Nat) => D.int i := by
  unfold rangeD
  rw [show ((j : Int) - 0).toNat = j by omega]
  refine List.map_congr_left fun i _ => ?_
  rw [Int.zero_add]
theorem rangeD_len (j : Nat) : (rangeD 0 j).length = j := by rw [rangeD_nat, List.length_map, List.length_range]
theorem range_cons {j i : Nat} {x : D} {xs : List D} (e : x :: xs = (rangeD 0 j).drop i) : x = .int i ∧ i < j ∧ xs = (rangeD 0 j).drop (i + 1) := by
  have hlt : i < (rangeD 0 j).length := by
    rcases Nat.lt_or_ge i (rangeD 0 j).length with q | q
    · exact q
    · rw [List.drop_eq_nil_of_le q] at e; cases e
  rw [List.drop_eq_getElem_cons hlt] at e
  rw [rangeD_len] at hlt
  refine ⟨?_, hlt, (List.cons.inj e).2⟩
  have h := (List.cons.inj e).1
  rw [h]
  have : (rangeD 0 j)[i]? = some (.int i) := by rw [rangeD_nat, List.getElem?_map, List.getElem?_range hlt]; rfl
  rw [List.getElem?_eq_getElem (by rw [rangeD_len]; exact hlt)] at this
  exact Option.some.inj this
theorem range_nil {j i : Nat} (e : [] = (rangeD 0 j).drop i) : j ≤ i := by
  have := congrArg List.length e
  rw [List.length_drop, rangeD_len] at this
  have h0 : ([] : List D).length = 0 := rfl
  omega
end DL

set_option Elab.async false
set_option linter.all false
set_option maxRecDepth 100000
set_option maxHeartbeats 4000000
set_option autoImplicit false
/-! Plain part: dicts in the store, what a def gives away. -/
namespace DL
open PySem L2
theorem closedL_set {n : Nat} : ∀ {S : Sto} {k : Nat} {d : D}, closedL n S = true → D.closed n d = true → closedL n (S.set k d) = true
  | [], _, _, h, _ => h
  | a :: r, 0, d, h, hd => by
    unfold closedL at h
    rw [Bool.and_eq_true] at h
    show closedL n (d :: r) = true
    unfold closedL
    rw [hd, h.2]; rfl
  | a :: r, k + 1, d, h, hd => by
    unfold closedL at h
    rw [Bool.and_eq_true] at h
    show closedL n (a :: r.set k d) = true
    unfold closedL
    rw [h.1, closedL_set h.2 hd]; rfl
theorem sane_set {S : Sto} {k : Nat} {d : D} (h : Sane S) (hd : D.closed S.length d = true) : Sane (S.set k d) := by
  unfold Sane
  rw [List.length_set]
  exact closedL_set h hd
mutual
theorem closed_mono {n m : Nat} (h : n ≤ m) : ∀ {d : D}, D.closed n d = true → D.closed m d = true
  | .ptr k, e => by
    unfold D.closed at e ⊢
    exact decide_eq_true (Nat.lt_of_lt_of_le (of_decide_eq_true e) h)
  | .tup xs, e => by unfold D.closed at e ⊢; exact closedL_mono h e
  | .lst xs, e => by unfold D.closed at e ⊢; exact closedL_mono h e
  | .dct xs, e => by unfold D.closed at e ⊢; exact closedK_mono h e
  | .dcn xs, e => by unfold D.closed at e ⊢; exact closedK_mono h e
  | .lck d, e => by unfold D.closed at e ⊢; exact closed_mono h e
  | .tux xs, e => by unfold D.closed at e ⊢; exact closedL_mono h e
  | .non, _ => rfl
  | .bl _, _ => rfl
  | .int _, _ => rfl
  | .str _, _ => rfl
  | .fn _, _ => rfl
  | .ty _, _ => rfl
theorem closedL_mono {n m : Nat} (h : n ≤ m) : ∀ {d : List D}, closedL n d = true → closedL m d = true
  | [], _ => rfl
  | a :: r, e => by
    unfold closedL at e ⊢
    rw [Bool.and_eq_true] at e ⊢
    exact ⟨closed_mono h e.1, closedL_mono h e.2⟩
theorem closedK_mono {n m : Nat} (h : n ≤ m) : ∀ {d : List (D × D)}, closedK n d = true → closedK m d = true
  | [], _ => rfl
  | (a, b) :: r, e => by
    unfold closedK at e ⊢
    rw [Bool.and_eq_true, Bool.and_eq_true] at e ⊢
    exact ⟨⟨closed_mono h e.1.1, closed_mono h e.1.2⟩, closedK_mono h e.2⟩
end
theorem closedL_app {n : Nat} : ∀ {a b : List D}, closedL n a = true → closedL n b = true → closedL n (a ++ b) = true
  | [], b, _, h => h
  | x :: a, b, e, h => by
    unfold closedL at e
    rw [Bool.and_eq_true] at e
    show closedL n (x :: (a ++ b)) = true
    unfold closedL
    rw [e.1, closedL_app e.2 h]; rfl
theorem sane_app {S : Sto} {d : D} (h : Sane S) (hd : D.closed (S.length + 1) d = true) : Sane (S ++ [d]) := by
  unfold Sane
  rw [List.length_append]
  refine closedL_app (closedL_mono (Nat.le_add_right _ _) h) ?_
  show closedL (S.length + 1) [d] = true
  unfold closedL closedL
  rw [hd]; rfl
section
variable {S : Sto} {δ : Sl} {QD : D → Sto → Prop} {N B C : Sl → Sto → Prop} {T : D → Sto → Prop}
theorem o_get {k : Nat} {q v : D} {kvs : List (D × D)} (h : S[k]? = some (.dct kvs)) (hq : isKey q = true) (e : lookD kvs q = some v) (f : QD v S) : (Res.lift (gGet S (.ptr k) q) S).post QD :=
  p_lift (by
    have hd : deref S (.ptr k) = .dct kvs := by
      unfold deref
      dsimp only
      rw [show S.getD k .non = .dct kvs by rw [List.getD_eq_getElem?_getD, h]; rfl]
    unfold gGet
    rw [if_pos hq, hd]
    exact e) f
theorem s_put {d k v : RE} (h : (v δ S).post fun z S1 => (d δ S1).post fun x S2 => (k δ S2).post fun y S3 => ∃ n kvs, x = .ptr n ∧ S3[n]? = some (.dct kvs) ∧ isKey y = true ∧ kvs.length < sizeLine ∧ N δ (S3.set n (.dct (putD kvs y z)))) : (sPut d k v δ S).post N T B C :=
  p_out (h.mono fun z S1 q => p_out (q.mono fun x S2 q => p_out (q.mono fun y S3 ⟨n, kvs, e1, e2, e3, e4, q'⟩ => by
    subst e1
    dsimp only
    rw [e2]
    dsimp only
    rw [if_pos (by rw [e3, decide_eq_true e4]; rfl)]
    exact q')))
theorem p_pairs_nil {Q : List (D × D) → Sto → Prop} (h : Q [] S) : (rPairs [] δ S).post Q := h
theorem p_pairs {k v : RE} {r : List (RE × RE)} {Q : List (D × D) → Sto → Prop} (h : (k δ S).post fun x S1 => (v δ S1).post fun y S2 => (rPairs r δ S2).post fun ps S3 => Q ((x, y) :: ps) S3) : (rPairs ((k, v) :: r) δ S).post Q := by
  unfold rPairs
  exact p_bind (h.mono fun x S1 q => p_bind (q.mono fun y S2 q => p_bind (q.mono fun ps S3 q => q)))
theorem p_disp {ps : List (RE × RE)} (h : (rPairs ps δ S).post fun kvs S1 => (kvs.all (fun p => isKey p.1) && decide (kvs.length ≤ 15)) = true ∧ QD (.dct (mergeD [] kvs)) S1) : (rDisp ps δ S).post QD := p_bind (h.mono fun kvs S1 q => by rw [if_pos q.1]; exact q.2)
end
/-- a def gives away what it made last -/
theorem m_give {n : Nat} {b : RS} {ds : List D} {S : Sto} {u : D} (hS : Sane S) (ho : u.owned = true) (hc : D.closed S.length u = true)
    (h : (b (ds.map some ++ List.replicate (n - ds.length) none) S).post NoS (fun z S1 => z = .ptr S.length ∧ S1 = S ++ [u]) NoS NoS) : mDef n b ds S = .ok (.ptr S.length) (S ++ [u]) := by
  unfold mDef
  cases q : b (ds.map some ++ List.replicate (n - ds.length) none) S with
  | rt d S1 =>
    rw [q] at h
    obtain ⟨rfl, rfl⟩ : d = .ptr S.length ∧ S1 = S ++ [u] := h
    dsimp only
    have e1 : D.closed S.length (.ptr S.length) = false := by unfold D.closed; exact decide_eq_false (Nat.lt_irrefl _)
    rw [e1]
    show giveD S.length (.ptr S.length) (S ++ [u]) = _
    unfold giveD
    dsimp only
    rw [show (S ++ [u])[S.length]? = some u by rw [List.getElem?_append_right (Nat.le_refl _), Nat.sub_self]; rfl]
    dsimp only
    rw [List.take_left', ho, hc, show closedL S.length S = true from hS, decide_eq_true (Nat.le_refl _)]
    · rfl
    · rfl
  | _ => rw [q] at h; exact h.elim
theorem m_defR {n : Nat} {b : RS} {ds : List D} {S : Sto} {Q : D → Sto → Prop} (h : (b (ds.map some ++ List.replicate (n - ds.length) none) S).post NoS (fun z S1 => S1.length = S.length ∧ Sane S1 ∧ D.closed S.length z = true ∧ Q z S1) NoS NoS) : (mDef n b ds S).post Q :=
  m_def (h.mono (fun _ _ z => z.elim) (fun z S1 ⟨e1, e2, e3, e4⟩ => by
    have e : S1.take S.length = S1 := by rw [← e1, List.take_length]
    rw [e, e3, ← e1, show closedL S1.length S1 = true from e2]
    exact ⟨rfl, e4⟩) (fun _ _ z => z) (fun _ _ z => z))
section
variable {δ : Sl} {S : Sto} {g : RG} {t : RB} {e : RE} {b : RS} {x : D} {xs : List D} {Q : List D → Sto → Prop} {N B C : Sl → Sto → Prop} {T : D → Sto → Prop}
theorem p_lc_nil (h : Q [] S) : (lcL g t e [] δ S).post Q := h
theorem p_lc_cons (h : (g x δ S).post fun δ1 S1 => (t δ1 S1).post fun k S2 => (k = true → (e δ1 S2).post fun y S3 => (lcL g t e xs δ S3).post fun ys S4 => Q (y :: ys) S4) ∧ (k = false → (lcL g t e xs δ S2).post Q)) : (lcL g t e (x :: xs) δ S).post Q := by
  unfold lcL
  refine p_bind (h.mono fun δ1 S1 q => p_bind (q.mono fun k S2 q => ?_))
  cases k with
  | true =>
    rw [if_pos rfl]
    exact p_bind ((q.1 rfl).mono fun y S3 q => p_bind (q.mono fun ys S4 q => q))
  | false => exact q.2 rfl
theorem s_for_nil (h : N δ S) : (forL g b [] δ S).post N T B C := h
end
/-- S' is S but at k -/
structure But (k : Nat) (S S' : Sto) : Prop where
  len : S'.length = S.length
  at_ : ∀ j, j ≠ k → S'[j]? = S[j]?
  sane : Sane S'
theorem But.trans {k : Nat} {S S1 S2 : Sto} (a : But k S S1) (b : But k S1 S2) : But k S S2 := ⟨b.len.trans a.len, fun j hj => (b.at_ j hj).trans (a.at_ j hj), b.sane⟩
end DL

set_option Elab.async false
set_option linter.all false
set_option maxRecDepth 100000
set_option maxHeartbeats 4000000
set_option autoImplicit false
/-! Plain part: texts by their signs. -/
namespace DL
open PySem L2
/-- the text of these signs -/
def mk (cs : List Nat) : Str := ⟨cs.toArray⟩
theorem mk_of (w : Str) : w = mk w.cps.toList := by unfold mk; simp
theorem mk_len (cs : List Nat) : (mk cs).length = cs.length := by show cs.toArray.size = _; simp
theorem mk_list (cs : List Nat) : (mk cs).cps.toList = cs := by unfold mk; simp
theorem mk_inj {a b : List Nat} (h : mk a = mk b) : a = b := by
  have := congrArg (fun z : Str => z.cps.toList) h
  rwa [mk_list, mk_list] at this
theorem mk_beq (a b : List Nat) : (mk a == mk b) = decide (a = b) := by
  by_cases h : a = b
  · subst h; rw [beq_self_eq_true, decide_eq_true rfl]
  · rw [decide_eq_false h]
    exact beq_eq_false_iff_ne.mpr fun z => h (mk_inj z)
theorem cut_tail (cs : List Nat) : cutS (mk cs) (some 1) none = mk (cs.drop 1) := by
  unfold cutS
  rw [mk_list, mk_len]
  have e : HT.sIx cs.length 0 (some 1) = min 1 cs.length := HT.sIx_nat _ _ 1
  rw [e]
  show mk _ = mk _
  congr 1
  rw [HT.sIx_none]
  rcases cs with _ | ⟨a, r⟩
  · rfl
  · simp
theorem cut_head (cs : List Nat) : cutS (mk cs) none (some 1) = mk (cs.take 1) := by
  unfold cutS
  rw [mk_list, mk_len]
  have e : HT.sIx cs.length cs.length (some 1) = min 1 cs.length := HT.sIx_nat _ _ 1
  rw [e]
  show mk _ = mk _
  congr 1
  rw [HT.sIx_none]
  rcases cs with _ | ⟨a, r⟩
  · rfl
  · simp
/-- signs that a text may have -/
def Fine (cs : List Nat) : Prop := ∀ c ∈ cs, c < 128
theorem Fine.ok {cs : List Nat} (h : Fine cs) : PyData.strOk (mk cs) = true := by
  unfold PyData.strOk mk
  rw [Array.all_eq_true']
  intro c hc
  have := h c (by simpa using hc)
  exact decide_eq_true (by omega)
theorem Fine.drop {cs : List Nat} (h : Fine cs) (n : Nat) : Fine (cs.drop n) := fun c hc => h c (List.mem_of_mem_drop hc)
theorem Fine.take {cs : List Nat} (h : Fine cs) (n : Nat) : Fine (cs.take n) := fun c hc => h c (List.mem_of_mem_take hc)
theorem starts_dash (cs : List Nat) : Txt.startswith (mk cs) "-" = (cs.head? == some 45) := by
  have e : ("-" : Str) = mk [45] := by kernel_rfl
  rw [e]
  unfold Txt.startswith Builtin.Str.subAt
  rw [mk_len, mk_len]
  rcases cs with _ | ⟨a, r⟩
  · rfl
  · have h1 : decide (0 + [45].length ≤ (a :: r).length) = true := decide_eq_true (by simp)
    rw [h1, Bool.true_and]
    have h2 : (mk (a :: r)).cps.extract 0 (0 + [45].length) = #[a] := by unfold mk; simp
    rw [h2]
    show (#[a] == #[45]) = (some a == some 45)
    by_cases z : a = 45
    · subst z; rfl
    · rw [beq_eq_false_iff_ne.mpr (fun y => z (by simpa using y)), beq_eq_false_iff_ne.mpr (fun y => z (by simpa using y))]
section
variable {δ : Sl} {S : Sto} {QD : D → Sto → Prop} {QO : Option Int → Sto → Prop} {a : RE} {l h : RO}
theorem p_onone (q : QO none S) : (oNone δ S).post QO := q
theorem p_osome (q : (a δ S).post fun x S1 => ∃ i, x = .int i ∧ QO (some i) S1) : (oSome a δ S).post QO := p_bind (q.mono fun x S1 ⟨i, e, q'⟩ => by subst e; exact q')
theorem p_cutS (q : (a δ S).post fun x S1 => (l δ S1).post fun i S2 => (h δ S2).post fun j S3 => ∃ z, x = .str z ∧ z.length ≤ sizeLine ∧ QD (.str (cutS z i j)) S3) : (rCut a l h δ S).post QD :=
  p_bind (q.mono fun x S1 q => p_bind (q.mono fun i S2 q => p_bind (q.mono fun j S3 ⟨z, e, e2, q'⟩ => by
    subst e
    show (if z.length ≤ sizeLine then Res.ok (D.str (cutS z i j)) S3 else .stuck).post QD
    rw [if_pos e2]; exact q')))
theorem p_cutL (q : (a δ S).post fun x S1 => (l δ S1).post fun i S2 => (h δ S2).post fun j S3 => ∃ z, x = .lst z ∧ QD (.lst (cutD z i j)) S3) : (rCut a l h δ S).post QD :=
  p_bind (q.mono fun x S1 q => p_bind (q.mono fun i S2 q => p_bind (q.mono fun j S3 ⟨z, e, q'⟩ => by
    subst e
    exact q')))
theorem o_len {z : Str} (e : z.length ≤ sizeLine) (q : QD (.int z.length) S) : (Res.lift (gLen S [.str z]) S).post QD := p_lift (by unfold gLen deref; dsimp only; rw [if_pos e]) q
theorem o_in1 {c : Nat} {z : Str} (q : QD (.bl (decide (c ∈ z.cps.toList))) S) : (Res.lift (gIn1 S (.str ⟨#[c]⟩) (.str z)) S).post QD := p_lift (by unfold gIn1 deref; rfl) q
theorem o_notIn1 {c : Nat} {z : Str} (q : QD (.bl (!decide (c ∈ z.cps.toList))) S) : (Res.lift (gNotIn1 S (.str ⟨#[c]⟩) (.str z)) S).post QD := p_lift (by unfold gNotIn1 gIn1 deref; rfl) q
theorem o_ixS {z : Str} {i : Int} {c : Nat} (e : z.length ≤ sizeLine) (e2 : atI z.cps.toList i = some c) (q : QD (.str ⟨#[c]⟩) S) : (Res.lift (gIx S (.str z) (.int i)) S).post QD := p_lift (by unfold gIx deref; dsimp only; rw [if_pos e, e2]; rfl) q
theorem o_addS {x y : Str} (e : x.length + y.length ≤ sizeLine) (q : QD (.str (x ++ y)) S) : (Res.lift (gAdd S (.str x) (.str y)) S).post QD := p_lift (by unfold gAdd deref; dsimp only; rw [if_pos e]) q
end
/-- the texts of single signs -/
def sgs (cs : List Nat) : List D := cs.map fun c => .str ⟨#[c]⟩
theorem walk_mk (cs : List Nat) : ((mk cs).cps.toList.map fun c => D.str ⟨#[c]⟩) = sgs cs := by rw [mk_list]; rfl
theorem figs : ("0123456789" : Str).cps.toList = [48, 49, 50, 51, 52, 53, 54, 55, 56, 57] := by kernel_rfl
theorem in_figs (c : Nat) : c ∈ ("0123456789" : Str).cps.toList ↔ 48 ≤ c ∧ c ≤ 57 := by
  rw [figs]
  simp only [List.mem_cons, List.not_mem_nil, or_false]
  omega
theorem toPys_strs {S : Sto} : ∀ xs : List Str, toPys S (xs.map .str) = some (xs.map .str)
  | [] => rfl
  | i :: r => by unfold List.map toPys toPy; rw [toPys_strs r]
theorem eqvAll_strs : ∀ xs ys : List Str, PyData.eqvAll (xs.map .str) (ys.map .str) = decide (xs = ys)
  | [], [] => by simp [PyData.eqvAll]
  | [], _ :: _ => by simp [PyData.eqvAll]
  | _ :: _, [] => by simp [PyData.eqvAll]
  | a :: r, b :: q => by simp [PyData.eqvAll, PyData.eqv, eqvAll_strs r q, Bool.beq_eq_decide_eq]
theorem lay_strs : ∀ xs : List Str, (∀ x ∈ xs, PyData.strOk x = true) → PyData.canLayAll0 (xs.map .str) = true ∧ PyData.depthAll (xs.map .str) = 0
  | [], _ => ⟨by simp [PyData.canLayAll0], by simp [PyData.depthAll]⟩
  | a :: r, h => by
    obtain ⟨h1, h2⟩ := lay_strs r fun x hx => h x (List.mem_cons_of_mem _ hx)
    exact ⟨by simp [PyData.canLayAll0, PyData.canLay0, h1, h a List.mem_cons_self], by simp [PyData.depthAll, PyData.depth, h2]⟩
theorem shaped_strs {xs : List Str} (h : ∀ x ∈ xs, PyData.strOk x = true) : SeqAt.shaped (.list (xs.map .str)) = true := by
  obtain ⟨h1, h2⟩ := lay_strs xs h
  unfold SeqAt.shaped; simp [PyData.canLay0, PyData.depth, h1, h2]
theorem o_eqStrs {S : Sto} {xs ys : List Str} {Q : D → Sto → Prop} (h1 : ∀ x ∈ xs, PyData.strOk x = true) (h2 : ∀ x ∈ ys, PyData.strOk x = true) (h : Q (.bl (decide (xs = ys))) S) : (Res.lift (gEq S (.lst (xs.map .str)) (.lst (ys.map .str))) S).post Q :=
  o_eqg (u := .list (xs.map .str)) (v := .list (ys.map .str)) (by show (toPys S (xs.map .str)).map PyData.list = _; rw [toPys_strs]; rfl) (by show (toPys S (ys.map .str)).map PyData.list = _; rw [toPys_strs]; rfl) (shaped_strs h1) (shaped_strs h2) (by simpa [PyData.eqv, eqvAll_strs] using h)
theorem o_neStrs {S : Sto} {xs ys : List Str} {Q : D → Sto → Prop} (h1 : ∀ x ∈ xs, PyData.strOk x = true) (h2 : ∀ x ∈ ys, PyData.strOk x = true) (h : Q (.bl (!decide (xs = ys))) S) : (Res.lift (gNe S (.lst (xs.map .str)) (.lst (ys.map .str))) S).post Q :=
  o_neg_ (u := .list (xs.map .str)) (v := .list (ys.map .str)) (by show (toPys S (xs.map .str)).map PyData.list = _; rw [toPys_strs]; rfl) (by show (toPys S (ys.map .str)).map PyData.list = _; rw [toPys_strs]; rfl) (shaped_strs h1) (shaped_strs h2) (by simpa [PyData.eqv, eqvAll_strs] using h)
def sg (c : Nat) : Str := ⟨#[c]⟩
theorem sgs_eq (cs : List Nat) : sgs cs = (cs.map sg).map D.str := by unfold sgs; rw [List.map_map]; rfl
theorem sg_inj {a b : Nat} (h : sg a = sg b) : a = b := by
  have := congrArg (fun z : Str => z.cps.toList) h
  simpa [sg] using this
theorem sg_ok {cs : List Nat} (h : Fine cs) : ∀ x ∈ cs.map sg, PyData.strOk x = true := by
  intro x hx
  obtain ⟨c, hc, rfl⟩ := List.mem_map.mp hx
  exact Fine.ok (cs := [c]) fun d hd => by rw [List.mem_singleton.mp hd]; exact h c hc
theorem sgs_mem {x : D} {cs : List Nat} (h : x ∈ sgs cs) : ∃ c ∈ cs, x = .str ⟨#[c]⟩ := by
  obtain ⟨c, h1, h2⟩ := List.mem_map.mp h
  exact ⟨c, h1, h2.symm⟩
theorem sgs_filter (p : Nat → Bool) (q : D → Bool) (h : ∀ c, q (.str ⟨#[c]⟩) = p c) : ∀ cs : List Nat, (sgs cs).filter q = sgs (cs.filter p)
  | [] => rfl
  | c :: r => by
    show List.filter q (.str ⟨#[c]⟩ :: sgs r) = _
    rw [List.filter_cons, h, List.filter_cons, sgs_filter p q h r]
    cases p c <;> rfl
theorem ix_figs {S : Sto} {c : Nat} (h : 48 ≤ c ∧ c ≤ 57) : gIndexS S (.str "0123456789") [.str ⟨#[c]⟩] = some (.int ((c - 48 : Nat) : Int)) := by
  rcases (by omega : c = 48 ∨ c = 49 ∨ c = 50 ∨ c = 51 ∨ c = 52 ∨ c = 53 ∨ c = 54 ∨ c = 55 ∨ c = 56 ∨ c = 57) with e | e | e | e | e | e | e | e | e | e <;> subst e <;> kernel_rfl
theorem asBls_map : ∀ bs : List Bool, asBls (bs.map .bl) = some bs
  | [] => rfl
  | b :: r => by unfold List.map asBls; rw [asBls_map r]; rfl
theorem o_all {S : Sto} {bs : List Bool} {Q : D → Sto → Prop} (h : Q (.bl (bs.all id)) S) : (Res.lift (gAll S [.lst (bs.map .bl)]) S).post Q := p_lift (by unfold gAll deref; dsimp only; rw [asBls_map]; rfl) h
theorem o_int {S : Sto} {x : Str} {n : Int} {Q : D → Sto → Prop} (e : intText? x = some n) (l : x.length ≤ 640) (h : Q (.int n) S) : (Res.lift (gInt S [.str x]) S).post Q := p_lift (by unfold gInt; dsimp only; rw [e]; dsimp only; rw [if_pos l]) h
end DL

set_option Elab.async false
set_option linter.all false
set_option maxRecDepth 100000
set_option maxHeartbeats 4000000
set_option autoImplicit false
/-! Data layer: dicts whatever their keys: get, in, store. -/
namespace DL
open PySem PySem.Spec PyProof.Rows L2

/-! ### keys -/
mutual
inductive NK (K : Fg) (H : Hp) : NestedKey → V → Prop
  | non : NK K H .none .non
  | bl (b : Bool) : NK K H (.num (if b = true then 1 else 0)) (.bl b)
  | int (i : Int) : NK K H (.num i) (.int i)
  | str (x : Str) : NK K H (.text x) (.str x)
  | tup {a : Addr} {vs : List V} {ks : List NestedKey} : SqT K H a vs → NKs K H ks vs → NK K H (.tup ks) (.ref a)
inductive NKs (K : Fg) (H : Hp) : List NestedKey → List V → Prop
  | nil : NKs K H [] []
  | cons {k : NestedKey} {v : V} {ks : List NestedKey} {vs : List V} : NK K H k v → NKs K H ks vs → NKs K H (k :: ks) (v :: vs)
end
section
variable {wd : World} {K : Fg} {mg : Str → Option Value} {F H : Hp} {α : List Addr} {S : Sto}
mutual
theorem DV.nk {v : V} : ∀ {d : D} {k : NestedKey}, DV wd K mg F α v d → keyN d = some k → Sub F H → NK K H k v
  | _, _, .non, e, _ => by cases e; exact .non
  | _, _, .bl b, e, _ => by cases e; exact .bl b
  | _, _, .int i, e, _ => by cases e; exact .int i
  | _, _, .str x, e, _ => by cases e; exact .str x
  | _, _, .tup h t, e, s => by
    rename_i ds
    unfold keyN at e
    cases q : keyNs ds with
    | none => rw [q] at e; cases e
    | some ys => rw [q] at e; cases e; exact .tup (s.sqT h.1) (DVs.nk t q s)
  | _, _, .lst _ _, e, _ => by cases e
  | _, _, .tux _ _, e, _ => by cases e
  | _, _, .ptr _, e, _ => by cases e
  | _, _, .fn _, e, _ => by cases e
  | _, _, .ty _, e, _ => by cases e
theorem DVs.nk {vs : List V} : ∀ {ds : List D} {ks : List NestedKey}, DVs wd K mg F α vs ds → keyNs ds = some ks → Sub F H → NKs K H ks vs
  | _, _, .nil, e, _ => by cases e; exact .nil
  | _, _, .cons h t, e, s => by
    rename_i d _ ds
    unfold keyNs at e
    cases q1 : keyN d with
    | none => rw [q1] at e; cases e
    | some x =>
      cases q2 : keyNs ds with
      | none => rw [q1, q2] at e; cases e
      | some xs => rw [q1, q2] at e; cases e; exact .cons (DV.nk h q1 s) (DVs.nk t q2 s)
end
end
section
variable {X : Cx} {pins : List (Addr × Obj)} {σ : L2.St} {H : Hp} {s : Shared}
mutual
theorem NK.is (I : Inv X pins σ H s) : ∀ {k : NestedKey} {v : V} {u : Value}, NK X.K H k v → RelV v u → NestedIs s.heap k u
  | _, _, u, .non, r => by have : u = Value.none := r; subst this; exact .none
  | _, _, u, .bl b, r => by have : u = Value.bool b := r; subst this; exact .bool rfl
  | _, _, u, .int i, r => by obtain ⟨t, e⟩ := (show ∃ t, u = Value.int i t from r); subst e; exact .int _ _
  | _, _, u, .str x, r => by obtain ⟨t, e⟩ := (show ∃ t, u = Value.str x t from r); subst e; exact .text _ _
  | _, _, u, .tup (a := a) h t, r => by
    have : u = Value.ref a := r
    subst this
    obtain ⟨its, rv, ⟨o, ho, hc, n, hd⟩, _⟩ := I.tuple h
    exact .tup ho hc hd (by simpa using NKs.are I t rv)
theorem NKs.are (I : Inv X pins σ H s) : ∀ {ks : List NestedKey} {vs : List V} {us : List Value}, NKs X.K H ks vs → Vals vs us → NestedAll s.heap ks us
  | _, _, _, .nil, r => by cases r; exact .nil
  | _, _, _, .cons h t, r => by
    cases r with
    | cons r1 r2 => exact .cons (NK.is I h r1) (NKs.are I t r2)
end
end

/-! ### what a dict holds, by values -/
def lookV (xs : List (NestedKey × Addr × V)) (k : NestedKey) : Option V := (xs.find? fun x => decide (x.1 = k)).map (·.2.2)
def putV1 (k : NestedKey) (v : V) (x : NestedKey × Addr × V) : NestedKey × Addr × V := if x.1 = k then (x.1, x.2.1, v) else x
def putV (xs : List (NestedKey × Addr × V)) (k : NestedKey) (a : Addr) (v : V) : List (NestedKey × Addr × V) := if (lookV xs k).isSome then xs.map (putV1 k v) else xs ++ [(k, a, v)]
theorem NV.look {xs : List (NestedKey × Addr × V)} {vs : List (NestedKey × Addr × Value)} (h : NV xs vs) (k : NestedKey) : RelO (lookV xs k) ((atKey vs k).map (·.2)) := by
  unfold NV at h
  induction h with
  | nil => trivial
  | @cons a b l₁ l₂ r t ih =>
    unfold lookV atKey at ih ⊢
    rw [List.find?_cons, List.find?_cons, ← r.1]
    by_cases q : a.1 = k
    · rw [decide_eq_true q]
      exact r.2.2
    · rw [decide_eq_false q]
      exact ih
theorem NV.isSome {xs : List (NestedKey × Addr × V)} {vs : List (NestedKey × Addr × Value)} (h : NV xs vs) (k : NestedKey) : (lookV xs k).isSome = (atKey vs k).isSome := by
  have := (h.look k).isSome_eq
  rw [Option.isSome_map] at this
  exact this
theorem NV.put {xs : List (NestedKey × Addr × V)} {vs : List (NestedKey × Addr × Value)} (h : NV xs vs) (k : NestedKey) (a : Addr) {v : V} {u : Value} (r : RelV v u) : NV (putV xs k a v) (storedH vs k a u) := by
  have e := h.isSome k
  unfold putV storedH
  rw [e]
  by_cases q : (atKey vs k).isSome = true
  · rw [if_pos q, if_pos q]
    clear q e
    unfold NV at h ⊢
    induction h with
    | nil => exact .nil
    | @cons x y l₁ l₂ z t ih =>
      refine .cons ?_ ih
      unfold putV1 putAt
      rw [← z.1]
      by_cases c : x.1 = k
      · rw [if_pos c, if_pos c]; exact ⟨rfl, z.2.1, r⟩
      · rw [if_neg c, if_neg c]; exact z
  · rw [if_neg q, if_neg q]
    exact Paired.snoc h ⟨rfl, rfl, r⟩
theorem NV.length {xs : List (NestedKey × Addr × V)} {vs : List (NestedKey × Addr × Value)} (h : NV xs vs) : xs.length = vs.length := Paired.length h
theorem NV.keys {xs : List (NestedKey × Addr × V)} {vs : List (NestedKey × Addr × Value)} (h : NV xs vs) : xs.map (·.1) = vs.map (·.1) := by
  unfold NV at h
  induction h with
  | nil => rfl
  | cons r _ ih => rw [List.map_cons, List.map_cons, ih, r.1]
theorem putV_length (xs : List (NestedKey × Addr × V)) (k : NestedKey) (a : Addr) (v : V) : (putV xs k a v).length ≤ xs.length + 1 := by
  unfold putV
  split
  · rw [List.length_map]; omega
  · rw [List.length_append]; exact Nat.le_refl _
/-- every key is a key -/
def NKeys (K : Fg) (H : Hp) (xs : List (NestedKey × Addr × V)) : Prop := ∀ x ∈ xs, NK K H x.1 (.ref x.2.1) ∧ x.1.depth ≤ 8
/-- at a stands a dict xs of tuple keys; the empty one is any -/
def NAt (w : World) (H : Hp) (a : Addr) (xs : List (NestedKey × Addr × V)) : Prop := Rd H a (dN w a xs) ∨ (xs = [] ∧ Rd H a (.dK []))
/-- .. that may be written -/
def NWr (w : World) (H : Hp) (a : Addr) (xs : List (NestedKey × Addr × V)) : Prop := H a = some (dN w a xs) ∨ (xs = [] ∧ H a = some (.dK []))
theorem NWr.at {w : World} {H : Hp} {a : Addr} {xs : List (NestedKey × Addr × V)} (h : NWr w H a xs) : NAt w H a xs := h.imp .inl fun ⟨e, q⟩ => ⟨e, .inl q⟩
theorem key_id {P : Program} {w : World} {x : NestedKey × Addr × Value} : entryOfKey (nestedKind P w) x = ⟨x.1.hash w, .ref x.2.1, x.2.2⟩ := rfl
theorem n_at {X : Cx} {pins : List (Addr × Obj)} {σ : L2.St} {H : Hp} {s : Shared} {a : Addr} {xs : List (NestedKey × Addr × V)} (I : Inv X pins σ H s) (e : NAt X.w H a xs) (hk : NKeys X.K H xs) :
    xs.length ≤ sizeLine ∧ (a == sysModules) = false ∧ ∃ vs, NV xs vs ∧ s.heap.DictOfH (nestedKind X.prog X.w) a vs := by
  rcases e with e | ⟨rfl, e⟩
  · obtain ⟨⟨h1, h2, h3, vs, h4, o, es, ep, h5, h6, h7, h8⟩, _⟩ := (show ObjOk X.prog X.w H s.heap a (dN X.w a xs) from e.ok I.hok)
    refine ⟨h2, h1, vs, h4, o, es, ep, h5, h6, h7, h8, fun x hx => ?_, by rw [← h4.keys]; exact h3⟩
    obtain ⟨i, hi⟩ := List.mem_iff_getElem?.mp hx
    have hl := h4.length
    obtain ⟨y, hy⟩ : ∃ y, xs[i]? = some y := ⟨_, List.getElem?_eq_getElem (by rw [hl]; exact (List.getElem?_eq_some_iff.mp hi).1)⟩
    obtain ⟨z, hz, q1, q2, _⟩ := paired_get h4 hy
    rw [hi] at hz
    cases hz
    obtain ⟨k1, k2⟩ := hk y (List.mem_of_getElem? hy)
    rw [← q1, ← q2]
    exact ⟨NK.is I k1 rfl, k2⟩
  · obtain ⟨h1, h2, vs, kv, o, es, ep, h3, h4, h5, h6⟩ := dk_rd I.hok e
    refine ⟨Nat.zero_le _, h2, [], .nil, o, es, ep, h3, h4, h5, ?_, (fun _ h => (nomatch h)), List.nodup_nil⟩
    have l1 := h6.2.1.length
    have l2 : ([] : List (Key × V)).length = vs.length := Paired.length kv
    rw [← l2] at l1
    exact List.eq_nil_of_length_eq_zero l1
section
variable {X : Cx} {pins : List (Addr × Obj)} {σ : L2.St} {H : Hp} {s : Shared} {a b : Addr} {xs : List (NestedKey × Addr × V)} {k : NestedKey} {v d : V} {u r : Value} {A : Around} {E : Value → Shared → Prop}
theorem room8 (hu : A.units + 10 < cLine) : (nestedKind X.prog X.w).room A.in1 := by
  show A.units + 1 + 8 < cLine
  omega
theorem n_getItem {Q : Value → Shared → Prop} (hu : A.units + 10 < cLine) (I : Inv X pins σ H s) (e : NAt X.w H a xs) (hk : NKeys X.K H xs) (kk : NK X.K H k (.ref b)) (hd : k.depth ≤ 8) (l : lookV xs k = some v) (h : ∀ w' s', Inv X pins σ H s' → RelV v w' → Q w' s') :
    wpAny (model X.prog X.w) A (getItem (.ref a) (.ref b)) Q E s := by
  obtain ⟨_, h2, vs, rel, dd⟩ := n_at I e hk
  obtain ⟨w', hw, rw'⟩ := RelO.some_of (v := v) (o := (atKey vs k).map (·.2)) (by rw [← l]; exact rel.look k)
  obtain ⟨p, hp, hp2⟩ := Option.map_eq_some_iff.mp hw
  refine wpAny_getItem_heap (knd := nestedKind X.prog X.w) (room8 hu) (k := k) ⟨NK.is I kk rfl, hd⟩ dd hp ?_
  rw [hp2]
  exact h w' _ (I.tok _) rw'
theorem n_in {Q : Value → Shared → Prop} (hu : A.units + 10 < cLine) (I : Inv X pins σ H s) (e : NAt X.w H a xs) (hk : NKeys X.K H xs) (kk : NK X.K H k (.ref b)) (hd : k.depth ≤ 8) (h : ∀ s', Inv X pins σ H s' → Q (.bool (lookV xs k).isSome) s') :
    wpAny (model X.prog X.w) A (compareOp .In (.ref b) (.ref a)) Q E s := by
  obtain ⟨_, h2, vs, rel, dd⟩ := n_at I e hk
  refine wpAny_in_heap (knd := nestedKind X.prog X.w) (room8 hu) (k := k) ⟨NK.is I kk rfl, hd⟩ h2 dd ?_
  rw [← rel.isSome k]
  exact h _ (I.tok _)
theorem n_notIn {Q : Value → Shared → Prop} (hu : A.units + 10 < cLine) (I : Inv X pins σ H s) (e : NAt X.w H a xs) (hk : NKeys X.K H xs) (kk : NK X.K H k (.ref b)) (hd : k.depth ≤ 8) (h : ∀ s', Inv X pins σ H s' → Q (.bool (!(lookV xs k).isSome)) s') :
    wpAny (model X.prog X.w) A (compareOp .NotIn (.ref b) (.ref a)) Q E s := by
  obtain ⟨_, h2, vs, rel, dd⟩ := n_at I e hk
  refine wpAny_notIn_heap (knd := nestedKind X.prog X.w) (room8 hu) (k := k) ⟨NK.is I kk rfl, hd⟩ h2 dd ?_
  rw [← rel.isSome k]
  exact h _ (I.tok _)
theorem n_get2 {Q : Value → Shared → Prop} (hu : A.units + 10 < cLine) (I : Inv X pins σ H s) (e : NAt X.w H a xs) (hk : NKeys X.K H xs) (kk : NK X.K H k (.ref b)) (hd : k.depth ≤ 8) (rd : RelV d r) (h : ∀ w' s', Inv X pins σ H s' → RelV ((lookV xs k).getD d) w' → Q w' s') :
    wpAny (model X.prog X.w) A (call (.builtin "dict.get") [.ref a, .ref b, r]) Q E s := by
  obtain ⟨_, h2, vs, rel, dd⟩ := n_at I e hk
  exact call_meetsIn PySem.F.slot_dict_get dd.typeIs PySem.F.entry_dict_get (PySem.F.args_dict_get_3 _ _ _) (meetsH_dict_get_default (nestedKind X.prog X.w) a b h2 r) ⟨room8 hu, k, vs, ⟨NK.is I kk rfl, hd⟩, dd, h _ _ (I.tok _) ((rel.look k).getD rd)⟩
theorem n_setItem {Q : Unit → Shared → Prop} (hu : A.units + 10 < cLine) (I : Inv X pins σ H s) (e : NWr X.w H a xs) (hk : NKeys X.K H xs) (hz : xs.length < sizeLine) (kk : NK X.K H k (.ref b)) (hd : k.depth ≤ 8) (rv : RelV v r) (h : ∀ s', Inv X pins σ (upd H a (dN X.w a (putV xs k b v))) s' → Q () s') :
    wpAny (model X.prog X.w) A (setItem (.ref a) (.ref b) r) Q E s := by
  obtain ⟨h1, h2, vs, rel, dd⟩ := n_at I e.at hk
  have hz' : vs.length ≤ sizeLine := by rw [← rel.length]; exact h1
  refine wpAny_setItem_heap (knd := nestedKind X.prog X.w) (hsz := hz') (room8 hu) (k := k) ⟨NK.is I kk rfl, hd⟩ dd fun h' dd' hs => h _ ?_
  obtain ⟨q, es, ep, hq, g2, g3, g4, _, g5⟩ := dd'
  refine d_write I (by rcases e with e | ⟨_, e⟩ <;> rw [e] <;> exact True.intro) hs ⟨q, hq⟩ ?_
  have rel' := rel.put k b rv
  refine ⟨⟨h2, by have := putV_length xs k b v; omega, by rw [rel'.keys]; exact g5, _, rel', q, es, ep, hq, g2, g3, g4⟩, ⟨q, hq⟩, fun z1 z2 ⟨p1, p2, p3, vs', p4, o', es', ep', p5, p6⟩ st => ⟨p1, p2, p3, vs', p4, o', es', ep', st _ p5, p6⟩⟩
end
/-- what the dict at a holds at y, whatever its keys -/
def UGet (w : World) (K : Fg) (H : Hp) (a : Addr) (y : V) (o : Option V) : Prop := DGet H a y o ∨ ∃ xs k b, NAt w H a xs ∧ NKeys K H xs ∧ y = .ref b ∧ NK K H k (.ref b) ∧ k.depth ≤ 8 ∧ o = lookV xs k
/-- the heap behind a[y] = v -/
def UPut (w : World) (K : Fg) (H : Hp) (a : Addr) (y v : V) (H' : Hp) : Prop := DPut H a y v H' ∨ ∃ xs k b, NWr w H a xs ∧ NKeys K H xs ∧ y = .ref b ∧ NK K H k (.ref b) ∧ k.depth ≤ 8 ∧ xs.length < sizeLine ∧ H' = upd H a (dN w a (putV xs k b v))
section
variable {X : Cx} {pins : List (Addr × Obj)} {σ : L2.St} {H : Hp} {s : Shared} {a : Addr} {y v d : V} {u r : Value} {o : Option V} {A : Around} {E : Value → Shared → Prop}
theorem u_typeIs (I : Inv X pins σ H s) (g : UGet X.w X.K H a y o) : s.TypeIs (.ref a) "dict" ∧ (∀ b, Value.ref a = .ref b → ∃ ob, s.heap.get? b = some ob ∧ ob.dict = none) := by
  rcases g with g | ⟨xs, k, b, e, hk, _⟩
  · exact ⟨dict_typeIs I g, dict_noDict I g⟩
  · obtain ⟨_, _, vs, _, dd⟩ := n_at I e hk
    refine ⟨dd.typeIs, fun b q => ?_⟩
    cases q
    obtain ⟨ob, _, _, h1, h2, _⟩ := dd
    exact ⟨ob, h1, h2.2.1⟩
theorem u_getItem {Q : Value → Shared → Prop} (hu : A.units + 10 < cLine) (I : Inv X pins σ H s) (g : UGet X.w X.K H a y (some v)) (ry : RelV y u) (h : ∀ w' s', Inv X pins σ H s' → RelV v w' → Q w' s') :
    wpAny (model X.prog X.w) A (getItem (.ref a) u) Q E s := by
  rcases g with g | ⟨xs, k, b, e, hk, rfl, kk, hd, l⟩
  · exact d_getItem (by omega) I g ry h
  · cases (show u = Value.ref b from ry)
    exact n_getItem hu I e hk kk hd l.symm h
theorem u_in {Q : Value → Shared → Prop} (hu : A.units + 10 < cLine) (I : Inv X pins σ H s) (g : UGet X.w X.K H a y o) (ry : RelV y u) (h : ∀ s', Inv X pins σ H s' → Q (.bool o.isSome) s') :
    wpAny (model X.prog X.w) A (compareOp .In u (.ref a)) Q E s := by
  rcases g with g | ⟨xs, k, b, e, hk, rfl, kk, hd, l⟩
  · exact d_in (by omega) I g ry h
  · cases (show u = Value.ref b from ry)
    subst l
    exact n_in hu I e hk kk hd h
theorem u_notIn {Q : Value → Shared → Prop} (hu : A.units + 10 < cLine) (I : Inv X pins σ H s) (g : UGet X.w X.K H a y o) (ry : RelV y u) (h : ∀ s', Inv X pins σ H s' → Q (.bool (!o.isSome)) s') :
    wpAny (model X.prog X.w) A (compareOp .NotIn u (.ref a)) Q E s := by
  rcases g with g | ⟨xs, k, b, e, hk, rfl, kk, hd, l⟩
  · exact d_notIn (by omega) I g ry h
  · cases (show u = Value.ref b from ry)
    subst l
    exact n_notIn hu I e hk kk hd h
theorem u_get2 {Q : Value → Shared → Prop} (hu : A.units + 10 < cLine) (I : Inv X pins σ H s) (g : UGet X.w X.K H a y o) (ry : RelV y u) (rd : RelV d r) (h : ∀ w' s', Inv X pins σ H s' → RelV (o.getD d) w' → Q w' s') :
    wpAny (model X.prog X.w) A (call (.builtin "dict.get") [.ref a, u, r]) Q E s := by
  rcases g with g | ⟨xs, k, b, e, hk, rfl, kk, hd, l⟩
  · exact d_get2 (by omega) I g ry rd h
  · cases (show u = Value.ref b from ry)
    subst l
    exact n_get2 hu I e hk kk hd rd h
theorem u_setItem {H' : Hp} {Q : Unit → Shared → Prop} (hu : A.units + 10 < cLine) (I : Inv X pins σ H s) (g : UPut X.w X.K H a y v H') (ry : RelV y u) (rv : RelV v r) (h : ∀ s', Inv X pins σ H' s' → Q () s') :
    wpAny (model X.prog X.w) A (setItem (.ref a) u r) Q E s := by
  rcases g with g | ⟨xs, k, b, e, hk, rfl, kk, hd, hz, rfl⟩
  · exact d_setItem (by omega) I g ry rv h
  · cases (show u = Value.ref b from ry)
    exact n_setItem hu I e hk hz kk hd rv h
end
def tUGet (X : Cx) (td ty : TE) : TE := fun σ H Q => td σ H fun x H1 => ty σ H1 fun y H2 => ∃ a v, x = .ref a ∧ UGet X.w X.K H2 a y (some v) ∧ Q v H2
def tUIn (X : Cx) (ty td : TE) : TE := fun σ H Q => ty σ H fun y H1 => td σ H1 fun x H2 => ∃ a o, x = .ref a ∧ UGet X.w X.K H2 a y o ∧ Q (.bl o.isSome) H2
def tUNotIn (X : Cx) (ty td : TE) : TE := fun σ H Q => ty σ H fun y H1 => td σ H1 fun x H2 => ∃ a o, x = .ref a ∧ UGet X.w X.K H2 a y o ∧ Q (.bl (!o.isSome)) H2
def sUPut (X : Cx) (td ty tv : TE) : TS := fun D σ H => tv σ H fun v H1 => td σ H1 fun x H2 => ty σ H2 fun y H3 => ∃ a H4, x = .ref a ∧ UPut X.w X.K H3 a y v H4 ∧ D.nx σ H4
/-- a is a dict -/
def UsD (w : World) (K : Fg) (H : Hp) (a : Addr) : Prop := IsD H a ∨ ∃ xs, NAt w H a xs ∧ NKeys K H xs
def tUGet2 (X : Cx) (td ty tx : TE) : TE := fun σ H Q => td σ H fun x H1 => ∃ a, x = .ref a ∧ UsD X.w X.K H1 a ∧ ty σ H1 fun y H2 => tx σ H2 fun z H3 => ∃ o, UGet X.w X.K H3 a y o ∧ Q (o.getD z) H3
section
variable {X : Cx} {o i e f value : Expr} {pos pos' tpos apos cpos : Pos} {td ty tv tx : TE}
theorem usd_at {pins : List (Addr × Obj)} {σ : L2.St} {H : Hp} {s : Shared} {a : Addr} (I : Inv X pins σ H s) (d : UsD X.w X.K H a) :
    s.TypeIs (.ref a) "dict" ∧ (∀ b, Value.ref a = .ref b → ∃ ob, s.heap.get? b = some ob ∧ ob.dict = none) := by
  rcases d with d | ⟨xs, e, hk⟩
  · obtain ⟨h1, h2, _⟩ := isD_at I d
    exact ⟨h1, h2⟩
  · obtain ⟨_, _, vs, _, dd⟩ := n_at I e hk
    refine ⟨dd.typeIs, fun b q => ?_⟩
    cases q
    obtain ⟨ob, _, _, h1, h2, _⟩ := dd
    exact ⟨ob, h1, h2.2.1⟩
theorem pe_uget (hu : X.A.units + 10 < cLine) (ho : PE X o td) (hi : PE X i ty) (hs : NoSl i) : PE X (.Subscript o i pos) (tUGet X td ty) := by
  refine ⟨fun pins s σ H Q I h => ?_⟩
  refine subD_of PySem.F.slot_dict_getitem.lookup hs (thn (ho.run pins s σ H _ I h) fun u s1 ⟨x, H1, I1, rx, q1⟩ => thn (hi.run pins s1 σ H1 _ I1 q1) fun iv s2 ⟨y, H2, I2, ry, a, v, ex, g, q2⟩ => ?_)
  subst ex
  obtain rfl : u = Value.ref a := rx
  exact ⟨(u_typeIs I2 g).1, u_getItem hu I2 g ry fun w' s3 I3 rw' => ⟨v, H2, I3, rw', q2⟩⟩
theorem pc_uin (hu : X.A.units + 10 < cLine) (hi : PE X i ty) (ho : PE X o td) : PC X .In i o (tUIn X ty td) := by
  refine ⟨fun pins s σ H Q I h => ?_⟩
  refine thn (hi.run pins s σ H _ I h) fun iv s1 ⟨y, H1, I1, ry, q1⟩ => thn (ho.run pins s1 σ H1 _ I1 q1) fun u s2 ⟨x, H2, I2, rx, a, ov, ex, g, q2⟩ => ?_
  subst ex
  obtain rfl : u = Value.ref a := rx
  exact u_in hu I2 g ry fun s3 I3 => ⟨.bl ov.isSome, H2, I3, rfl, q2⟩
theorem pc_unotin (hu : X.A.units + 10 < cLine) (hi : PE X i ty) (ho : PE X o td) : PC X .NotIn i o (tUNotIn X ty td) := by
  refine ⟨fun pins s σ H Q I h => ?_⟩
  refine thn (hi.run pins s σ H _ I h) fun iv s1 ⟨y, H1, I1, ry, q1⟩ => thn (ho.run pins s1 σ H1 _ I1 q1) fun u s2 ⟨x, H2, I2, rx, a, ov, ex, g, q2⟩ => ?_
  subst ex
  obtain rfl : u = Value.ref a := rx
  exact u_notIn hu I2 g ry fun s3 I3 => ⟨.bl (!ov.isSome), H2, I3, rfl, q2⟩
theorem ps_uput (hu : X.A.units + 10 < cLine) (ho : PE X o td) (hi : PE X i ty) (hv : PE X value tv) (hs : swapsWith value (some (.Subscript o i pos')) pos.line X.env = pure false) :
    PS X (.Assign [.Subscript o i pos'] value pos) (sUPut X td ty tv) := by
  refine ⟨fun pins s σ H D I h => ?_⟩
  refine wpAny_Assign_Subscript (thn (hv.run pins s σ H _ I h) fun r s1 ⟨v, H1, I1, rv, q1⟩ => thn (ho.run pins s1 σ H1 _ I1 q1) fun u s2 ⟨x, H2, I2, rx, q2⟩ => thn (hi.run pins s2 σ H2 _ I2 q2) fun iv s3 ⟨y, H3, I3, ry, a, H4, ex, g, q3⟩ => ?_) hs
  subst ex
  obtain rfl : u = Value.ref a := rx
  exact u_setItem hu I3 g ry rv fun s4 I4 => ⟨σ, H4, I4, q3⟩
theorem pe_uget2 (hu : X.A.units + 10 < cLine) (ho : PE X o td) (he : PE X e ty) (hf : PE X f tx) (m : M2 X o "get" apos e f cpos) : PE X (.Call (.Attribute o "get" apos) [e, f] [] cpos) (tUGet2 X td ty tx) := by
  refine ⟨fun pins s σ H Q I h => ?_⟩
  refine wpAny_Call_method m.base m.few m.line PySem.F.plainAttrs_dict PySem.F.slot_dict_get PySem.F.type_dict_get (thn (ho.run pins s σ H _ I h) fun u s1 ⟨x, H1, I1, rx, a, ex, d, q1⟩ => ?_)
  subst ex
  obtain rfl : u = Value.ref a := rx
  obtain ⟨t1, t2⟩ := usd_at I1 d
  refine ⟨t1, t2, ?_⟩
  rw [m.trees]
  refine Calls.callWith_builtin rfl (Calls.evalArgs_plain (Calls.spliced_cons (thn (he.run pins s1 σ H1 _ I1 q1) fun iv s2 ⟨y, H2, I2, ry, q2⟩ =>
    Calls.spliced_cons (thn (hf.run pins s2 σ H2 _ I2 q2) fun fv s3 ⟨z, H3, I3, rz, ov, g, q3⟩ => Calls.spliced_nil ?_))))
  exact u_get2 hu I3 g ry rz fun w' s4 I4 rw' => ⟨_, H3, I4, rw', q3⟩
end
end DL

set_option Elab.async false
set_option linter.all false
set_option maxRecDepth 100000
set_option maxHeartbeats 4000000
set_option autoImplicit false
/-! Data layer: dicts whatever their keys, by data. -/
namespace DL
open PySem PySem.Spec PyProof.Rows L2
def lookU (S : Sto) (d q : D) : Option (Option D) := match deref S d with
  | .dct kvs => if isKey q then some (lookD kvs q) else if kvs.isEmpty && isKeyN q then some none else none
  | .dcn kvs => if isKeyN q then some (lookN kvs q) else none
  | _ => none
def gGetU : Sto → D → D → Option D := fun S d q => match lookU S d q with
  | some (some v) => some v
  | _ => none
def gInU : Sto → D → D → Option D := fun S q d => (lookU S d q).map fun o => .bl o.isSome
def gNotInU : Sto → D → D → Option D := fun S q d => (lookU S d q).map fun o => .bl (!o.isSome)
def isDct (S : Sto) (d : D) : Bool := match deref S d with
  | .dct _ => true
  | .dcn _ => true
  | _ => false
/-- d.get(k, x) -/
def rGet2 (a k x : RE) : RE := fun δ S => (a δ S).bind fun d S1 => if isDct S1 d then (k δ S1).bind fun q S2 => (x δ S2).bind fun z S3 => .lift ((lookU S3 d q).map (·.getD z)) S3 else .stuck
/-- d[k] = v -/
def putU (u y z : D) : Option D := match u with
  | .dct kvs => if isKey y then (if kvs.length < sizeLine then some (.dct (putD kvs y z)) else none) else if kvs.isEmpty && isKeyN y then some (.dcn [(y, z)]) else none
  | .dcn kvs => if isKeyN y && decide (kvs.length < sizeLine) then some (.dcn (putN kvs y z)) else none
  | _ => none
def sPutU (d k v : RE) : RS := fun δ S => (v δ S).out δ fun z S1 => (d δ S1).out δ fun x S2 => (k δ S2).out δ fun y S3 => match x with
  | .ptr n => (match S3[n]? with
    | some u => (match putU u y z with
      | some u' => .nx δ (S3.set n u')
      | none => .stuck)
    | none => .stuck)
  | _ => .stuck
section
variable {wd : World} {K : Fg} {mg : Str → Option Value} {α β : List Addr} {F F1 H H1 : Hp} {S : Sto}
theorem isKeyN_ex {q : D} (h : isKeyN q = true) : ∃ ds nk, q = .tup ds ∧ keyN q = some nk ∧ nk.depth ≤ 8 := by
  cases q with
  | tup ds =>
    unfold isKeyN at h
    dsimp only at h
    split at h
    · rename_i k e
      exact ⟨ds, k, rfl, e, of_decide_eq_true h⟩
    · cases h
  | _ => cases h
theorem eqN_dec {a b : D} {x y : NestedKey} (h1 : keyN a = some x) (h2 : keyN b = some y) : eqN a b = decide (x = y) := by
  unfold eqN
  rw [h1, h2, NestedKey.decide_eq]
theorem NVs.keys {xs : List (NestedKey × Addr × V)} {kvs : List (D × D)} (h : NVs wd K mg F α xs kvs) (s : Sub F H) : NKeys K H xs := by
  induction h with
  | nil => intro x hx; cases hx
  | cons h1 h2 h3 _ _ _ ih =>
    intro x hx
    rcases List.mem_cons.mp hx with rfl | hx
    · exact ⟨h3.nk h1 s, h2⟩
    · exact ih x hx
theorem NVs.length {xs : List (NestedKey × Addr × V)} {kvs : List (D × D)} (h : NVs wd K mg F α xs kvs) : xs.length = kvs.length := by
  induction h with
  | nil => rfl
  | cons _ _ _ _ _ _ ih => rw [List.length_cons, List.length_cons, ih]
theorem putV1_pos {k : NestedKey} {v : V} {x : NestedKey × Addr × V} (h : x.1 = k) : putV1 k v x = (x.1, x.2.1, v) := if_pos h
theorem putV1_neg {k : NestedKey} {v : V} {x : NestedKey × Addr × V} (h : ¬ x.1 = k) : putV1 k v x = x := if_neg h
theorem NVs.look {xs : List (NestedKey × Addr × V)} {kvs : List (D × D)} (h : NVs wd K mg F α xs kvs) {q : D} {nk : NestedKey} (hq : keyN q = some nk) :
    (∀ d, lookN kvs q = some d → ∃ v, lookV xs nk = some v ∧ DV wd K mg F α v d) ∧ (lookN kvs q = none → lookV xs nk = none) := by
  induction h with
  | nil => exact ⟨(fun d e => by cases e), fun _ => rfl⟩
  | @cons nk' b' v' q' d' xs kvs h1 h2 h3 h4 h5 h6 ih =>
    unfold lookN lookV
    rw [eqN_dec h1 hq, List.find?_cons]
    by_cases e : nk' = nk
    · rw [decide_eq_true e]
      exact ⟨(fun d z => by cases z; exact ⟨_, rfl, h5⟩), fun z => by cases z⟩
    · rw [decide_eq_false e]
      exact ih
theorem NVs.isSome {xs : List (NestedKey × Addr × V)} {kvs : List (D × D)} (h : NVs wd K mg F α xs kvs) {q : D} {nk : NestedKey} (hq : keyN q = some nk) : (lookN kvs q).isSome = (lookV xs nk).isSome := by
  obtain ⟨h1, h2⟩ := h.look hq
  cases e : lookN kvs q with
  | none => rw [h2 e]; rfl
  | some d => obtain ⟨v, e1, _⟩ := h1 d e; rw [e1]; rfl
theorem NVs.append {xs ys : List (NestedKey × Addr × V)} {kvs lws : List (D × D)} (h : NVs wd K mg F α xs kvs) (g : NVs wd K mg F α ys lws) : NVs wd K mg F α (xs ++ ys) (kvs ++ lws) := by
  induction h with
  | nil => exact g
  | cons h1 h2 h3 h4 h5 _ ih => exact .cons h1 h2 h3 h4 h5 ih
theorem NVs.put {xs : List (NestedKey × Addr × V)} {kvs : List (D × D)} (h : NVs wd K mg F α xs kvs) {q d : D} {nk : NestedKey} {b : Addr} {v : V} (hq : keyN q = some nk) (hd : nk.depth ≤ 8) (hb : DV wd K mg F α (.ref b) q) (ht : ∃ ds, q = .tup ds) (hv : DV wd K mg F α v d) :
    NVs wd K mg F α (putV xs nk b v) (putN kvs q d) := by
  unfold putV putN
  rw [← h.isSome hq]
  by_cases c : (lookN kvs q).isSome = true
  · rw [if_pos c, if_pos c]
    clear c
    induction h with
    | nil => exact .nil
    | @cons nk' b' v' q' d' xs kvs h1 h2 h3 h4 h5 _ ih =>
      rw [List.map_cons]
      unfold replN
      rw [eqN_dec h1 hq]
      by_cases z : nk' = nk
      · rw [decide_eq_true z, if_pos rfl, putV1_pos (x := (nk', b', v')) z]
        exact .cons h1 h2 h3 h4 hv ih
      · rw [decide_eq_false z, if_neg (show ¬ false = true by decide), putV1_neg (x := (nk', b', v')) z]
        exact .cons h1 h2 h3 h4 h5 ih
  · rw [if_neg c, if_neg c]
    exact h.append (.cons hq hd hb ht hv .nil)
theorem DV.isRef {v : V} {ds : List D} (h : DV wd K mg F α v (.tup ds)) : ∃ b, v = .ref b := by cases h; exact ⟨_, rfl⟩
theorem Rel.uget (hr : Rel wd K mg α F H S) {x y : V} {d q : D} {r : Option D} (hx : DV wd K mg F α x d) (hy : DV wd K mg F α y q) (e : lookU S d q = some r) :
    ∃ a o, x = .ref a ∧ UGet wd K H a y o ∧ (r = none → o = none) ∧ ∀ z, r = some z → ∃ v, o = some v ∧ DV wd K mg F α v z := by
  have s := hr.see hx
  unfold lookU at e
  generalize hd : deref S d = dd at e s
  cases s with
  | «at» h _ => cases h <;> cases e
  | dead => cases e
  | lst _ _ => cases e
  | @dct a ws kvs rd k t =>
    dsimp only at e
    split at e
    · rename_i hk
      cases e
      obtain ⟨k', rfl⟩ := isKey_kD hk
      have := kD_DV hy
      subst this
      have kv := KVs.of k t
      obtain ⟨g1, g2⟩ := kv.look k'
      exact ⟨a, valV ws k', rfl, .inl (.inl ⟨ws, k', rd, rfl, rfl⟩), g2, g1⟩
    · split at e
      · rename_i hc
        cases e
        rw [Bool.and_eq_true] at hc
        obtain ⟨ds, nk, rfl, h1, h2⟩ := isKeyN_ex hc.2
        obtain ⟨b, rfl⟩ := DV.isRef hy
        have : kvs = [] := List.isEmpty_iff.mp hc.1
        subst this
        have : ws = [] := by have := t.length; simpa using this
        subst this
        exact ⟨a, none, rfl, .inr ⟨[], nk, b, .inr ⟨rfl, rd⟩, (fun _ h => nomatch h), rfl, hy.nk h1 hr.sub, h2, rfl⟩, fun _ => rfl, fun z hz => by cases hz⟩
      · cases e
  | @dcn a xs kvs rd nv =>
    dsimp only at e
    split at e
    · rename_i hk
      cases e
      obtain ⟨ds, nk, rfl, h1, h2⟩ := isKeyN_ex hk
      obtain ⟨b, rfl⟩ := DV.isRef hy
      obtain ⟨g1, g2⟩ := nv.look h1
      exact ⟨a, lookV xs nk, rfl, .inr ⟨xs, nk, b, .inl rd, nv.keys hr.sub, rfl, hy.nk h1 hr.sub, h2, rfl⟩, g2, g1⟩
    · cases e
theorem Rel.usd (hr : Rel wd K mg α F H S) {x : V} {d : D} (hx : DV wd K mg F α x d) (e : isDct S d = true) : ∃ a, x = .ref a ∧ UsD wd K H a := by
  have s := hr.see hx
  unfold isDct at e
  generalize deref S d = dd at e s
  cases s with
  | «at» h _ => cases h <;> cases e
  | dead => cases e
  | lst _ _ => cases e
  | @dct a ws kvs rd k t => exact ⟨a, rfl, .inl (.inl ⟨ws, rd⟩)⟩
  | @dcn a xs kvs rd nv => exact ⟨a, rfl, .inr ⟨xs, .inl rd, nv.keys hr.sub⟩⟩
end
section
variable {X : Cx} {W : WX} {a b c e tg : Expr} {es rest : List Expr} {ra rb rc : RE} {ba bb : RB} {rs : RA} {pos p : Pos} {wd : World} {K : Fg} {mg : Str → Option Value} {α β : List Addr} {F F1 H H1 : Hp} {S : Sto}
theorem pd_uget (hu : X.A.units + 10 < cLine) (ha : PD X W a ra) (hb : PD X W b rb) (hs : NoSl b := by intro _ _; rfl) : PD X W (.Subscript a b pos) (rBin gGetU ra rb) := by
  obtain ⟨ta, pa, sa⟩ := ha.ex
  obtain ⟨tb, pb, sb⟩ := hb.ex
  refine ⟨_, pe_uget hu pa pb hs, sa.bin sb fun α F H S x y d e z Q hr hx hy hz q => ?_⟩
  unfold gGetU at hz
  split at hz
  · rename_i v e1
    cases hz
    obtain ⟨l, o, rfl, h1, _, h3⟩ := hr.uget hx hy e1
    obtain ⟨v', rfl, h4⟩ := h3 z rfl
    exact ⟨l, v', rfl, h1, fin_now hr h4 q⟩
  · cases hz
theorem pd_inU (hu : X.A.units + 10 < cLine) (ha : PD X W a ra) (hb : PD X W b rb) (hm : behindInMarks .In b = false := by rfl) : PD X W (.Compare a [.In] [b] pos) (rBin gInU ra rb) ∧ PB X W (.Compare a [.In] [b] pos) (bVal (rBin gInU ra rb)) := by
  obtain ⟨ta, pa, sa⟩ := ha.ex
  obtain ⟨tb, pb, sb⟩ := hb.ex
  have s : SndE X.w X.K X.mg W (tUIn X ta tb) (rBin gInU ra rb) := sa.bin sb fun α F H S x y d e z Q hr hx hy hz q => by
    unfold gInU at hz
    obtain ⟨o, e1, e2⟩ := Option.map_eq_some_iff.mp hz
    obtain ⟨l, o', rfl, h1, h2, h3⟩ := hr.uget hy hx e1
    subst e2
    refine ⟨l, o', rfl, h1, fin_now hr ?_ q⟩
    cases o with
    | none => rw [h2 rfl]; exact .bl _
    | some v => obtain ⟨v', rfl, _⟩ := h3 v rfl; exact .bl _
  exact ⟨⟨_, pe_cmp (pc_uin hu pa pb) hm, s⟩, ⟨_, pt_cmp (pc_uin hu pa pb) hm, s.val⟩⟩
theorem pd_notInU (hu : X.A.units + 10 < cLine) (ha : PD X W a ra) (hb : PD X W b rb) (hm : behindInMarks .NotIn b = false := by rfl) : PD X W (.Compare a [.NotIn] [b] pos) (rBin gNotInU ra rb) ∧ PB X W (.Compare a [.NotIn] [b] pos) (bVal (rBin gNotInU ra rb)) := by
  obtain ⟨ta, pa, sa⟩ := ha.ex
  obtain ⟨tb, pb, sb⟩ := hb.ex
  have s : SndE X.w X.K X.mg W (tUNotIn X ta tb) (rBin gNotInU ra rb) := sa.bin sb fun α F H S x y d e z Q hr hx hy hz q => by
    unfold gNotInU at hz
    obtain ⟨o, e1, e2⟩ := Option.map_eq_some_iff.mp hz
    obtain ⟨l, o', rfl, h1, h2, h3⟩ := hr.uget hy hx e1
    subst e2
    refine ⟨l, o', rfl, h1, fin_now hr ?_ q⟩
    cases o with
    | none => rw [h2 rfl]; exact .bl _
    | some v => obtain ⟨v', rfl, _⟩ := h3 v rfl; exact .bl _
  exact ⟨⟨_, pe_cmp (pc_unotin hu pa pb) hm, s⟩, ⟨_, pt_cmp (pc_unotin hu pa pb) hm, s.val⟩⟩
theorem pd_get2 {apos cpos : Pos} (hu : X.A.units + 10 < cLine) (ha : PD X W a ra) (hb : PD X W b rb) (hc : PD X W c rc) (m : M2 X a "get" apos b c cpos := by exact ⟨rfl, rfl, rfl, rfl⟩) : PD X W (.Call (.Attribute a "get" apos) [b, c] [] cpos) (rGet2 ra rb rc) := by
  obtain ⟨ta, pa, sa⟩ := ha.ex
  obtain ⟨tb, pb, sb⟩ := hb.ex
  obtain ⟨tc, pc, sc⟩ := hc.ex
  refine ⟨_, pe_uget2 hu pa pb pc m, fun α F σ H δ S Q hr hs h => ?_⟩
  refine sa α F σ H δ S _ hr hs (wp.bind h fun d S1 _ x H1 β F1 r1 s1 v1 h1 => ?_)
  split at h1
  · rename_i hd
    obtain ⟨l, rfl, hd'⟩ := r1.usd v1 hd
    refine ⟨l, rfl, hd', ?_⟩
    refine sb (α ++ β) F1 σ H1 δ S1 _ r1 (hs.mono s1.sub) (wp.bind h1 fun q S2 _ y H2 γ F2 r2 s2 v2 h2 => ?_)
    refine sc (α ++ β ++ γ) F2 σ H2 δ S2 _ r2 ((hs.mono s1.sub).mono s2.sub) (wp.bind h2 fun z S3 _ w H3 ε F3 r3 s3 v3 h3 => ?_)
    obtain ⟨z', e1, h4⟩ := wp.lift h3
    obtain ⟨o, e2, e3⟩ := Option.map_eq_some_iff.mp e1
    obtain ⟨l', o', e4, g1, g2, g3⟩ := r3.uget ((v1.mono s2.sub).mono s3.sub) (v2.mono s3.sub) e2
    cases e4
    refine ⟨o', g1, ?_⟩
    subst e3
    cases o with
    | none => rw [g2 rfl]; exact h4.now r3 v3
    | some v => obtain ⟨v', rfl, q'⟩ := g3 v rfl; exact h4.now r3 q'
  · exact h1.elim
theorem psd_putU {o i value : Expr} {pos' : Pos} {ro ri rv : RE} (hu : X.A.units + 10 < cLine) (ho : PD X W o ro) (hi : PD X W i ri) (hv : PD X W value rv) (hs : swapsWith value (some (.Subscript o i pos')) pos.line X.env = pure false := by rfl) : PSd X W (.Assign [.Subscript o i pos'] value pos) (sPutU ro ri rv) := by
  obtain ⟨to, po, so⟩ := ho.ex
  obtain ⟨ti, pi, si⟩ := hi.ex
  obtain ⟨tv, pv', sv⟩ := hv.ex
  refine ⟨_, ps_uput hu po pi pv' hs, fun α F σ H δ S E hr hs h => ?_⟩
  refine sv α F σ H δ S _ hr hs (wpS.out h hs fun z S1 _ v H1 β F1 r1 q1 v1 h1 => ?_)
  have hs1 := hs.mono (β := β) q1.sub
  refine so (α ++ β) F1 σ H1 δ S1 _ r1 hs1 (wpS.out h1 hs1 fun x S2 _ xv H2 γ F2 r2 q2 v2 h2 => ?_)
  have hs2 := hs1.mono (β := γ) q2.sub
  refine si (α ++ β ++ γ) F2 σ H2 δ S2 _ r2 hs2 (wpS.out h2 hs2 fun y S3 _ yv H3 ε F3 r3 q3 v3 h3 => ?_)
  have hs3 := hs2.mono (β := ε) q3.sub
  split at h3
  · rename_i n
    split at h3
    · rename_i u e1
      split at h3
      · rename_i u' e2
        have v2' := v2.mono (β := ε) q3.sub
        have vz := (v1.mono (β := γ) q2.sub).mono (β := ε) q3.sub
        cases v2' with
        | @ptr _ ad ea =>
          obtain ⟨o1, _⟩ := r3.own _ _ _ ea e1
          unfold putU at e2
          cases u with
          | dct kvs =>
            dsimp only at e2
            split at e2
            · rename_i hk
              split at e2
              · rename_i hl
                cases e2
                obtain ⟨k, rfl⟩ := isKey_kD hk
                obtain ⟨ws, o2, o3⟩ := Own.dctK.mp o1
                have := kD_DV v3
                subst this
                obtain ⟨a1, a2⟩ := r3.setO (o := .dK (putK ws k v)) (d := .dct (putD kvs (kD k) z)) ea e1 rfl (Own.dctK.mpr ⟨_, upd_same, o3.put k vz⟩)
                exact ⟨_, _, rfl, .inl (.inl ⟨ws, k, o2, rfl, by rw [o3.length]; exact hl, rfl⟩), h3 _ _ _ _ a1 a2 (hs3.mono a2.sub)⟩
              · cases e2
            · split at e2
              · rename_i hc
                cases e2
                rw [Bool.and_eq_true] at hc
                obtain ⟨ds, nk, rfl, g1, g2⟩ := isKeyN_ex hc.2
                obtain ⟨b, rfl⟩ := DV.isRef v3
                have : kvs = [] := List.isEmpty_iff.mp hc.1
                subst this
                obtain ⟨ws, o2, o3⟩ := Own.dctK.mp o1
                cases o3
                obtain ⟨a1, a2⟩ := r3.setO (o := dN X.w ad (putV [] nk b v)) (d := .dcn [(.tup ds, z)]) ea e1 rfl ⟨_, upd_same, .cons g1 g2 v3 ⟨_, rfl⟩ vz .nil⟩
                exact ⟨_, _, rfl, .inr ⟨[], nk, b, .inr ⟨rfl, o2⟩, (fun _ h => nomatch h), rfl, v3.nk g1 r3.sub, g2, by decide, rfl⟩, h3 _ _ _ _ a1 a2 (hs3.mono a2.sub)⟩
              · cases e2
          | dcn kvs =>
            dsimp only at e2
            split at e2
            · rename_i hc
              cases e2
              rw [Bool.and_eq_true] at hc
              obtain ⟨ds, nk, rfl, g1, g2⟩ := isKeyN_ex hc.1
              obtain ⟨b, rfl⟩ := DV.isRef v3
              obtain ⟨xs, o2, o3⟩ := o1
              obtain ⟨a1, a2⟩ := r3.setO (o := dN X.w ad (putV xs nk b v)) (d := .dcn (putN kvs (.tup ds) z)) ea e1 rfl ⟨_, upd_same, o3.put g1 g2 v3 ⟨_, rfl⟩ vz⟩
              exact ⟨_, _, rfl, .inr ⟨xs, nk, b, .inl o2, o3.keys r3.sub, rfl, v3.nk g1 r3.sub, g2, by rw [o3.length]; exact of_decide_eq_true hc.2, rfl⟩, h3 _ _ _ _ a1 a2 (hs3.mono a2.sub)⟩
            · cases e2
          | _ => cases e2
      · exact h3.elim
    · exact h3.elim
  · exact h3.elim
end
end DL

set_option Elab.async false
set_option linter.all false
set_option maxRecDepth 100000
set_option maxHeartbeats 4000000
set_option autoImplicit false
/-! Data layer: dicts walked while they are locked. -/
namespace DL
open PySem PySem.Spec PyProof.Rows L2

/-! ### a locked dict of tuple keys -/
section
variable {X : Cx} {pins : List (Addr × Obj)} {σ : L2.St} {H : Hp} {s : Shared} {d : Addr} {o : Obj}
theorem frzN {xs : List (NestedKey × Addr × V)} (I : Inv X pins σ H s) (h : H d = some (.frz o (dN X.w d xs))) :
    (d == sysModules) = false ∧ s.heap.get? d = some o ∧ o.ExactDict ∧ ∃ (es : Array DictEntry) (ep : Nat), o.data = .dict es ep ∧ es.size = xs.length ∧
      ∀ (i : Nat) (k : NestedKey) (b : Addr) (v : V), xs[i]? = some (k, b, v) → ∃ en : DictEntry, es[i]? = some en ∧ en.key = .ref b ∧ RelV v en.val := by
  obtain ⟨hd, ⟨h1, h2, h3, vs, h4, o', es, ep, h5, h6, h7, h8⟩, _⟩ := I.hok d _ h
  rw [hd] at h5
  cases h5
  have hl := h4.length
  refine ⟨h1, hd, h6, es, ep, h7, ?_, fun i k b v e => ?_⟩
  · rw [← Array.length_toList, h8, List.length_map, hl]
  · obtain ⟨y, hy, e1, e2, e3⟩ := paired_get h4 e
    refine ⟨⟨y.1.hash X.w, .ref y.2.1, y.2.2⟩, ?_, ?_, e3⟩
    · rw [← Array.getElem?_toList, h8, List.getElem?_map, hy]; rfl
    · show Value.ref y.2.1 = .ref b
      rw [← e2]
end
/-- the pairs, each a new tuple -/
def ItiN (w : World) (d : Addr) (o : Obj) (xs : List (NestedKey × Addr × V)) : It :=
  ⟨fun i H => H d = some (.frz o (dN w d xs)) ∧ i < xs.length, fun i H x H' => ∃ T k b v, xs[i]? = some (k, b, v) ∧ x = .ref T ∧ H T = none ∧ H' = upd H T (.tup [.ref b, v]), fun i H => H d = some (.frz o (dN w d xs)) ∧ xs.length ≤ i⟩
/-- the keys -/
def ItkN (w : World) (d : Addr) (o : Obj) (xs : List (NestedKey × Addr × V)) : It :=
  ⟨fun i H => H d = some (.frz o (dN w d xs)) ∧ i < xs.length, fun i H x H' => H' = H ∧ ∃ k b v, xs[i]? = some (k, b, v) ∧ x = .ref b, fun i H => H d = some (.frz o (dN w d xs)) ∧ xs.length ≤ i⟩
section
variable {P : Program} {w : World} {K : Fg} {tg : Expr} {d : Addr} {o : Obj} {es : Array DictEntry} {ep : Nat}
theorem turn_itemsN {xs : List (NestedKey × Addr × V)} {elts : List Expr} {kk : Nat} {tpos : Pos} (it : Addr) (hod : o.data = .dict es ep) :
    Turn P w K (.Tuple elts kk tpos) (ItiN w d o xs) [it] it (fun i h => ∃ ok ov, IsItemIter h it d i xs.length ep ok ov) where
  mem := by simp
  obj := fun i h st b hb => by
    have e : b = it := by simpa using hb
    subst e
    obtain ⟨ok, ov, e⟩ := st
    exact ⟨_, e, fun v z => nomatch z⟩
  keep := fun i h h' st k => let ⟨ok, ov, e⟩ := st; ⟨ok, ov, k it (by simp) _ e⟩
  item := by
    intro X hP hw hK hc i pins s σ H E I hf st hg
    subst hP hw hK
    obtain ⟨hd, hi⟩ := hg
    obtain ⟨hs, hgd, hx, es', ep', hdt, hsz, ent⟩ := frzN I hd
    obtain ⟨rfl, rfl⟩ := dict_ep hod hdt
    obtain ⟨⟨k, b, v⟩, hkv⟩ : ∃ p, xs[i]? = some p := ⟨xs[i], List.getElem?_eq_getElem hi⟩
    obtain ⟨en, hen, hkey, rv⟩ := ent i k b v hkv
    obtain ⟨ok, ov, he⟩ := st
    rw [← hsz] at he
    have hlt : it < s.heap.objs.size := Heap.lt_size he
    have hi' : i < es'.size := by rw [hsz]; exact hi
    have ee : es'[i] = en := by
      rw [Array.getElem?_eq_getElem hi'] at hen
      exact Option.some.inj hen
    refine wpAny_pyNext_items_item_raw he ⟨o, hgd, hx, hdt⟩ hi' fun h' ho hT hz hk => ?_
    refine ⟨_, rfl, wpAny_letOwnedTupleGo_items (s := { s with heap := h' }) ho fun h'' he' sb => ?_⟩
    have hT2 : h''.get? s.heap.objs.size = some { cls := .type "tuple", data := .seq #[es'[i].key, es'[i].val] } := (sb.2 _ (Nat.ne_of_gt hlt)).trans hT
    have new : ObjOk X.prog X.w (upd H s.heap.objs.size (.tup [.ref b, v])) h'' s.heap.objs.size (.tup [.ref b, v]) :=
      ⟨by show 2 ≤ sizeLine; decide, [es'[i].key, es'[i].val], .cons (show es'[i].key = .ref b by rw [ee]; exact hkey) (.cons (by rw [ee]; exact rv) .nil), ⟨_, hT2, rfl, _, rfl⟩⟩
    have I1 : Inv X pins σ (upd H s.heap.objs.size (.tup [.ref b, v])) { s with heap := h'' } :=
      I.turnedNew (t' := s.toks) (ch := [it]) (fun b ob hb e => (sb.2 b (by simpa using hb)).trans (hk b ob (by simpa using hb) e)) hf (Nat.le_refl _) new
    refine ⟨.ref s.heap.objs.size, _, I1, rfl, ⟨_, k, b, v, hkv, rfl, I.hok.fresh (Nat.le_refl _), rfl⟩, ⟨es'[i].key, es'[i].val, ?_⟩, fun b hb => ?_⟩
    · rw [← hsz]; exact he'
    · have e : b = it := by simpa using hb
      rw [e, upd_ne (Nat.ne_of_lt hlt)]
      exact (hf it (by simp)).1
  done := by
    intro X hP hw hK hc i pins s σ H E I hf st hg
    subst hP hw hK
    obtain ⟨hd, hi⟩ := hg
    obtain ⟨f0, f1, f2, f3, f4, f5⟩ := hf it (by simp)
    obtain ⟨hs, hgd, hx, es', ep', hdt, hsz, ent⟩ := frzN I hd
    obtain ⟨rfl, rfl⟩ := dict_ep hod hdt
    obtain ⟨ok, ov, he⟩ := st
    rw [← hsz] at he
    exact wpAny_pyNext_items_end_raw (I.ok.hd hc) he ⟨o, hgd, hx, hdt⟩ (by omega) fun h' eb => ⟨rfl, I.turned (t' := s.toks) (fun b ob hb e => eb b ob hb e) f0 f1 f3 f4 f5⟩
  self := fun A i s Q E st h => let ⟨_, _, e⟩ := st; PySem.W.kcp_self e h
theorem turn_keysN {xs : List (NestedKey × Addr × V)} (it : Addr) (hod : o.data = .dict es ep) : Turn P w K tg (ItkN w d o xs) [it] it (fun i h => h.IsKeyIter it d i xs.length ep) where
  mem := by simp
  obj := fun i h st b hb => by
    have e : b = it := by simpa using hb
    subst e
    obtain ⟨oi, e, c, dd⟩ := st
    exact ⟨oi, e, fun v z => by rw [dd] at z; cases z⟩
  keep := fun i h h' st k => st.at fun oi e => k it (by simp) oi e
  item := by
    intro X hP hw hK hc i pins s σ H E I hf st hg
    subst hP hw hK
    obtain ⟨hd, hi⟩ := hg
    obtain ⟨f0, f1, f2, f3, f4, f5⟩ := hf it (by simp)
    obtain ⟨hs, hgd, hx, es', ep', hdt, hsz, ent⟩ := frzN I hd
    obtain ⟨rfl, rfl⟩ := dict_ep hod hdt
    obtain ⟨⟨k, b, v⟩, hkv⟩ : ∃ p, xs[i]? = some p := ⟨xs[i], List.getElem?_eq_getElem hi⟩
    obtain ⟨en, hen, hkey, rv⟩ := ent i k b v hkv
    refine next_key_item st hgd hdt hsz hen fun h' st' sb => ?_
    have I1 : Inv X pins σ H { s with heap := h' } := I.turned (t' := s.toks) (fun b ob hb e => (sb.2 b hb).trans e) f0 f1 f3 f4 f5
    obtain ⟨oi, e, c, dd⟩ := id st'
    exact ⟨en.key, rfl, go_of (s := { s with heap := h' }) e c dd (by decide) ⟨.ref b, H, I1, hkey, ⟨rfl, k, b, v, hkv, rfl⟩, st', fun b hb => (hf b hb).1⟩⟩
  done := by
    intro X hP hw hK hc i pins s σ H E I hf st hg
    subst hP hw hK
    obtain ⟨hd, hi⟩ := hg
    obtain ⟨f0, f1, f2, f3, f4, f5⟩ := hf it (by simp)
    obtain ⟨hs, hgd, hx, es', ep', hdt, hsz, ent⟩ := frzN I hd
    obtain ⟨rfl, rfl⟩ := dict_ep hod hdt
    exact next_key_end (I.ok.hd hc) st hgd hdt hsz hi fun h' eb => ⟨rfl, I.turned (t' := s.toks) (fun b ob hb e => eb b ob hb e) f0 f1 f3 f4 f5⟩
  self := fun A i s Q E st h => by
    refine wpAny_pyIter_slot st.typeIs F.slot_dict_keyiterator_iter (wpAny_call_entry F.slot_dict_keyiterator_iter st.typeIs F.entry_dict_keyiterator_iter ?_ (F.args_dict_keyiterator_iter_1 _))
    show wpAny _ _ (ret (.ref it)) _ _ s
    exact wpAny_pure ⟨_, rfl, "dict_keyiterator", _, st.typeIs, F.slot_dict_keyiterator_next.lookup, h⟩
end
def iItemsU (X : Cx) (td : TE) : TI := fun σ H R => td σ H fun x H1 => ∃ d o, x = .ref d ∧ ((∃ kvs, H1 d = some (.frz o (.dK kvs)) ∧ R (Iti d o kvs) H1) ∨ ∃ xs, H1 d = some (.frz o (dN X.w d xs)) ∧ R (ItiN X.w d o xs) H1)
def iKeysU (X : Cx) (td : TE) : TI := fun σ H R => td σ H fun x H1 => ∃ d o, x = .ref d ∧ ((∃ kvs, H1 d = some (.frz o (.dK kvs)) ∧ R (Itk d o kvs) H1) ∨ ∃ xs, H1 d = some (.frz o (dN X.w d xs)) ∧ R (ItkN X.w d o xs) H1)
section
variable {X : Cx} {tg e : Expr} {td : TE} {apos cpos : Pos}
theorem pi_itemsU {elts : List Expr} {kk : Nat} {tpos : Pos} (he : PE X e td) (hbase : attributeBase e "items" X.env (eval e X.env) = eval e X.env := by rfl) (hline : (apos.endLine == cpos.line) = true := by rfl) :
    PI X (.Tuple elts kk tpos) (.Call (.Attribute e "items" apos) [] [] cpos) (iItemsU X td) := by
  refine ⟨fun pins s σ H R I h => ?_⟩
  refine wpAny_Call_method (T := "dict") (id := "dict.items") hbase rfl hline F.plainAttrs_dict F.slot_dict_items F.type_dict_items (thn (he.run pins s σ H _ I h) fun u s1 ⟨x, H1, I1, rx, d, o, ex, q⟩ => ?_)
  subst ex
  obtain rfl : u = Value.ref d := rx
  rcases q with ⟨kvs, hd, q⟩ | ⟨xs, hd, q⟩
  · obtain ⟨hs, hgd, hx, es, ep, vs, hdt, hsz, kv, hm⟩ := I1.frzK hd
    have hl : kvs.length = vs.length := Paired.length kv
    refine ⟨hm.dictOf.typeIs, hm.dictOf.mapOf.noDict, ?_⟩
    have I2 : Inv X pins σ H1 { s1 with heap := s1.heap.push { cls := .type "dict_items", data := .fields #[.ref d] } } := I1.kept (t' := s1.toks) fun b ob q => Heap.get?_push_of_some _ q
    have fin : wpAny (model X.prog X.w) X.A (pyIter (.ref s1.heap.objs.size)) (PIE X pins σ (.Tuple elts kk tpos) R) X.xe { s1 with heap := s1.heap.push { cls := .type "dict_items", data := .fields #[.ref d] } } := by
      refine wpAny_pyIter_items (d := d) (knd := mixKind X.prog X.w) ⟨_, Heap.get?_push_size _ rfl, rfl, rfl⟩ (hm.push _) (pi_one (tk := s1.toks) I2 _ (turn_items _ hdt) ⟨.none, .none, ?_⟩ q)
      rw [hl]
      exact Heap.get?_push_size _ rfl
    show wpAny _ _ (callWith cpos (.builtin "dict.items") [.ref d] [] []) _ X.xe s1
    exact method_meetsIn F.slot_dict_items F.entry_dict_items rfl (PySem.evalArgs_none ⟨rfl, hm.dictOf.typeIs, F.args_dict_items_1 _, _, meets_dict_items (mixKind X.prog X.w) d hs, ⟨vs, hm.dictOf⟩, fin⟩)
  · obtain ⟨hs, hgd, hx, es, ep, hdt, hsz, ent⟩ := frzN I1 hd
    have raw : s1.heap.DictRaw d es ep := ⟨o, hgd, hx, hdt⟩
    refine ⟨raw.typeIs, fun b e => ?_, ?_⟩
    · cases e; exact ⟨o, hgd, hx.2.1⟩
    have I2 : Inv X pins σ H1 { s1 with heap := s1.heap.push { cls := .type "dict_items", data := .fields #[.ref d] } } := I1.kept (t' := s1.toks) fun b ob q => Heap.get?_push_of_some _ q
    have fin : wpAny (model X.prog X.w) X.A (pyIter (.ref s1.heap.objs.size)) (PIE X pins σ (.Tuple elts kk tpos) R) X.xe { s1 with heap := s1.heap.push { cls := .type "dict_items", data := .fields #[.ref d] } } := by
      refine wpAny_pyIter_items_raw (d := d) ⟨_, Heap.get?_push_size _ rfl, rfl, rfl⟩ (raw.at fun o e => Heap.get?_push_of_some _ e) (pi_one (tk := s1.toks) I2 _ (turn_itemsN _ hdt) ⟨.none, .none, ?_⟩ q)
      rw [← hsz]
      exact Heap.get?_push_size _ rfl
    show wpAny _ _ (callWith cpos (.builtin "dict.items") [.ref d] [] []) _ X.xe s1
    exact method_meetsIn F.slot_dict_items F.entry_dict_items rfl (PySem.evalArgs_none ⟨rfl, raw.typeIs, F.args_dict_items_1 _, _, meets_dict_items_raw d hs, ⟨es, ep, raw⟩, fin⟩)
theorem pi_keysU (he : PE X e td) : PI X tg e (iKeysU X td) := by
  refine ⟨fun pins s σ H R I h => ?_⟩
  refine thn (he.run pins s σ H _ I h) fun u s1 ⟨x, H1, I1, rx, d, o, ex, q⟩ => ?_
  subst ex
  obtain rfl : u = Value.ref d := rx
  rcases q with ⟨kvs, hd, q⟩ | ⟨kvs, hd, q⟩
  · obtain ⟨hs, hgd, hx, es, ep, vs, hdt, hsz, kv, hm⟩ := I1.frzK hd
    refine iter_keys hs hgd hx hdt (pi_one (tk := s1.toks) I1 _ (turn_keys _ hdt) ⟨_, Heap.get?_push_size _ rfl, rfl, ?_⟩ q)
    rw [hsz] <;> rfl
  · obtain ⟨hs, hgd, hx, es, ep, hdt, hsz, ent⟩ := frzN I1 hd
    refine iter_keys hs hgd hx hdt (pi_one (tk := s1.toks) I1 _ (turn_keysN _ hdt) ⟨_, Heap.get?_push_size _ rfl, rfl, ?_⟩ q)
    rw [hsz] <;> rfl
end
/-! ### by data -/
def pairsD (kvs : List (D × D)) : List D := kvs.map fun p => .tux [p.1, p.2]
def lckOf (S : Sto) (d : D) : Option (List (D × D)) := match d with
  | .ptr k => (match S[k]? with
    | some (.lck (.dct kvs)) => some kvs
    | some (.lck (.dcn kvs)) => some kvs
    | _ => none)
  | _ => none
/-- d.items(), d, of a locked dict -/
def rItems (a : RE) : RA := fun δ S => (a δ S).bind fun d S1 => .lift ((lckOf S1 d).map pairsD) S1
def rKeys (a : RE) : RA := fun δ S => (a δ S).bind fun d S1 => .lift ((lckOf S1 d).map fun kvs => kvs.map (·.1)) S1
section
variable {wd : World} {K : Fg} {mg : Str → Option Value} {α β : List Addr} {F F1 H H1 : Hp} {S : Sto}
theorem KVs.at {ws : List (Key × V)} {kvs : List (D × D)} (h : KVs wd K mg F α ws kvs) : ∀ {i : Nat} {p : D × D}, kvs[i]? = some p → ∃ k v, ws[i]? = some (k, v) ∧ p.1 = kD k ∧ DV wd K mg F α v p.2 := by
  induction h with
  | nil => intro i p e; simp at e
  | cons h _ ih =>
    intro i p e
    cases i with
    | zero => simp at e; subst e; exact ⟨_, _, rfl, rfl, h⟩
    | succ i => simp at e; obtain ⟨k, v, e1, e2, e3⟩ := ih e; exact ⟨k, v, by simpa using e1, e2, e3⟩
theorem NVs.at {xs : List (NestedKey × Addr × V)} {kvs : List (D × D)} (h : NVs wd K mg F α xs kvs) : ∀ {i : Nat} {p : D × D}, kvs[i]? = some p → ∃ k b v, xs[i]? = some (k, b, v) ∧ DV wd K mg F α (.ref b) p.1 ∧ DV wd K mg F α v p.2 := by
  induction h with
  | nil => intro i p e; simp at e
  | cons h1 h2 h3 h4 h5 _ ih =>
    intro i p e
    cases i with
    | zero => simp at e; subst e; exact ⟨_, _, _, rfl, h3, h5⟩
    | succ i => simp at e; obtain ⟨k, b, v, e1, e2, e3⟩ := ih e; exact ⟨k, b, v, by simpa using e1, e2, e3⟩
theorem DV.key (k : Key) : DV wd K mg F α (kV k) (kD k) := by cases k <;> constructor
theorem Sub.at {F F' : Hp} {a : Addr} {u : HO} (s : Sub F F') (h : F a = some u) : F' a = some u := s _ _ h
theorem it_items {a : Addr} {o : Obj} {ws : List (Key × V)} {kvs : List (D × D)} (hF : F a = some (.frz o (.dK ws))) (h : KVs wd K mg F α ws kvs) : ItOk wd K mg F α (Iti a o ws) (pairsD kvs) where
  go := fun F' H' i s1 s2 hi => ⟨s2 _ _ (s1 _ _ hF), by unfold pairsD at hi; rw [List.length_map] at hi; rw [h.length]; exact hi⟩
  stop := fun F' H' s1 s2 => ⟨s2 _ _ (s1 _ _ hF), by unfold pairsD; rw [List.length_map, h.length]; exact Nat.le_refl _⟩
  yld := fun F' H' H2 i x d s1 s2 hd ⟨T, k, v, e1, e2, e3, e4⟩ => by
    unfold pairsD at hd
    rw [List.getElem?_map] at hd
    obtain ⟨p, hp, rfl⟩ := Option.map_eq_some_iff.mp hd
    obtain ⟨k', v', g1, g2, g3⟩ := h.at hp
    rw [e1] at g1
    cases g1
    refine .inr ⟨T, _, e3, e4, ?_⟩
    subst e2
    have hn : F' T = none := by
      cases q : F' T with
      | none => rfl
      | some u => rw [s2 _ _ q] at e3; cases e3
    have g3' := g3.mono (β := []) (s1.trans (Sub.new (o := .tup [kV k, v]) hn))
    rw [List.append_nil] at g3'
    rw [g2]
    exact .tux (SqT.of upd_same) (.cons (DV.key k) (.cons g3' .nil))
theorem it_itemsN {a : Addr} {o : Obj} {xs : List (NestedKey × Addr × V)} {kvs : List (D × D)} (hF : F a = some (.frz o (dN wd a xs))) (h : NVs wd K mg F α xs kvs) : ItOk wd K mg F α (ItiN wd a o xs) (pairsD kvs) where
  go := fun F' H' i s1 s2 hi => ⟨s2 _ _ (s1 _ _ hF), by unfold pairsD at hi; rw [List.length_map] at hi; rw [h.length]; exact hi⟩
  stop := fun F' H' s1 s2 => ⟨s2 _ _ (s1 _ _ hF), by unfold pairsD; rw [List.length_map, h.length]; exact Nat.le_refl _⟩
  yld := fun F' H' H2 i x d s1 s2 hd ⟨T, k, b, v, e1, e2, e3, e4⟩ => by
    unfold pairsD at hd
    rw [List.getElem?_map] at hd
    obtain ⟨p, hp, rfl⟩ := Option.map_eq_some_iff.mp hd
    obtain ⟨k', b', v', g1, g2, g3⟩ := h.at hp
    rw [e1] at g1
    cases g1
    refine .inr ⟨T, _, e3, e4, ?_⟩
    subst e2
    have hn : F' T = none := by
      cases q : F' T with
      | none => rfl
      | some u => rw [s2 _ _ q] at e3; cases e3
    have sb := s1.trans (Sub.new (o := .tup [.ref b, v]) hn)
    have g2' := g2.mono (β := []) sb
    have g3' := g3.mono (β := []) sb
    rw [List.append_nil] at g2' g3'
    exact .tux (SqT.of upd_same) (.cons g2' (.cons g3' .nil))
theorem it_keys {a : Addr} {o : Obj} {ws : List (Key × V)} {kvs : List (D × D)} (hF : F a = some (.frz o (.dK ws))) (h : KVs wd K mg F α ws kvs) : ItOk wd K mg F α (Itk a o ws) (kvs.map (·.1)) where
  go := fun F' H' i s1 s2 hi => ⟨s2 _ _ (s1 _ _ hF), by rw [List.length_map] at hi; rw [h.length]; exact hi⟩
  stop := fun F' H' s1 s2 => ⟨s2 _ _ (s1 _ _ hF), by rw [List.length_map, h.length]; exact Nat.le_refl _⟩
  yld := fun F' H' H2 i x d s1 s2 hd ⟨e0, k, v, e1, e2⟩ => by
    rw [List.getElem?_map] at hd
    obtain ⟨p, hp, rfl⟩ := Option.map_eq_some_iff.mp hd
    obtain ⟨k', v', g1, g2, g3⟩ := h.at hp
    rw [e1] at g1
    cases g1
    subst e2
    exact .inl ⟨e0, by rw [g2]; exact DV.key k⟩
theorem it_keysN {a : Addr} {o : Obj} {xs : List (NestedKey × Addr × V)} {kvs : List (D × D)} (hF : F a = some (.frz o (dN wd a xs))) (h : NVs wd K mg F α xs kvs) : ItOk wd K mg F α (ItkN wd a o xs) (kvs.map (·.1)) where
  go := fun F' H' i s1 s2 hi => ⟨s2 _ _ (s1 _ _ hF), by rw [List.length_map] at hi; rw [h.length]; exact hi⟩
  stop := fun F' H' s1 s2 => ⟨s2 _ _ (s1 _ _ hF), by rw [List.length_map, h.length]; exact Nat.le_refl _⟩
  yld := fun F' H' H2 i x d s1 s2 hd ⟨e0, k, b, v, e1, e2⟩ => by
    rw [List.getElem?_map] at hd
    obtain ⟨p, hp, rfl⟩ := Option.map_eq_some_iff.mp hd
    obtain ⟨k', b', v', g1, g2, g3⟩ := h.at hp
    rw [e1] at g1
    cases g1
    subst e2
    have g2' := g2.mono (β := []) s1
    rw [List.append_nil] at g2'
    exact .inl ⟨e0, g2'⟩
/-- a locked thing -/
theorem Rel.locked (hr : Rel wd K mg α F H S) {v : V} {d : D} {kvs : List (D × D)} (h : DV wd K mg F α v d) (e : lckOf S d = some kvs) :
    ∃ a o, v = .ref a ∧ ((∃ ws, F a = some (.frz o (.dK ws)) ∧ KVs wd K mg F α ws kvs) ∨ ∃ xs, F a = some (.frz o (dN wd a xs)) ∧ NVs wd K mg F α xs kvs) := by
  unfold lckOf at e
  split at e
  · rename_i k
    cases h with
    | @ptr _ a ea =>
      split at e
      · rename_i kvs' e1
        cases e
        obtain ⟨o, ws, h0, h1, h2, h3⟩ := (hr.own _ _ _ ea e1).1
        exact ⟨a, o, rfl, .inl ⟨ws, h0, .of h2 h3⟩⟩
      · rename_i kvs' e1
        cases e
        obtain ⟨o, ws, h0, h1, h2⟩ := (hr.own _ _ _ ea e1).1
        exact ⟨a, o, rfl, .inr ⟨ws, h0, h2⟩⟩
      · cases e
  · cases e
end
section
variable {X : Cx} {W : WX} {a b c e tg : Expr} {es rest : List Expr} {ra rb rc : RE} {ba bb : RB} {rs : RA} {pos p apos cpos : Pos} {wd : World} {K : Fg} {mg : Str → Option Value} {α β : List Addr} {F F1 H H1 : Hp} {S : Sto}
theorem pid_items {elts : List Expr} {kk : Nat} {tpos : Pos} (ha : PD X W e ra) (hbase : attributeBase e "items" X.env (eval e X.env) = eval e X.env := by rfl) (hline : (apos.endLine == cpos.line) = true := by rfl) :
    PId X W (.Tuple elts kk tpos) (.Call (.Attribute e "items" apos) [] [] cpos) (rItems ra) := by
  obtain ⟨t, p1, s1⟩ := ha.ex
  refine ⟨_, pi_itemsU p1 hbase hline, fun α F σ H δ S Q hr hs h => ?_⟩
  refine s1 α F σ H δ S _ hr hs (wp.bind h fun d S1 e1 x H1 β F1 r1 q1 v1 h1 => ?_)
  obtain ⟨ds, e2, h2⟩ := wp.lift h1
  obtain ⟨kvs, e3, rfl⟩ := Option.map_eq_some_iff.mp e2
  obtain ⟨l, o, rfl, q⟩ := r1.locked v1 e3
  refine ⟨l, o, rfl, ?_⟩
  rcases q with ⟨ws, g1, g2⟩ | ⟨xs, g1, g2⟩
  · exact .inl ⟨ws, r1.sub _ _ g1, h2.now r1 (it_items g1 g2)⟩
  · exact .inr ⟨xs, r1.sub _ _ g1, h2.now r1 (it_itemsN g1 g2)⟩
theorem pid_keys (ha : PD X W e ra) : PId X W tg e (rKeys ra) := by
  obtain ⟨t, p1, s1⟩ := ha.ex
  refine ⟨_, pi_keysU p1, fun α F σ H δ S Q hr hs h => ?_⟩
  refine s1 α F σ H δ S _ hr hs (wp.bind h fun d S1 e1 x H1 β F1 r1 q1 v1 h1 => ?_)
  obtain ⟨ds, e2, h2⟩ := wp.lift h1
  obtain ⟨kvs, e3, rfl⟩ := Option.map_eq_some_iff.mp e2
  obtain ⟨l, o, rfl, q⟩ := r1.locked v1 e3
  refine ⟨l, o, rfl, ?_⟩
  rcases q with ⟨ws, g1, g2⟩ | ⟨xs, g1, g2⟩
  · exact .inl ⟨ws, r1.sub _ _ g1, h2.now r1 (it_keys g1 g2)⟩
  · exact .inr ⟨xs, r1.sub _ _ g1, h2.now r1 (it_keysN g1 g2)⟩
end
end DL

set_option Elab.async false
set_option linter.all false
set_option maxRecDepth 100000
set_option maxHeartbeats 4000000
set_option autoImplicit false
/-! Data layer: a statement done while a dict is locked; what is never reached. -/
namespace DL
open PySem PySem.Spec PyProof.Rows L2

def isSq : HO → Prop
  | .tup _ => True
  | .lst _ => True
  | .frz _ (.tup _) => True
  | .frz _ (.lst _) => True
  | _ => False
/-- lists and tuples stay -/
def SubS (F F' : Hp) : Prop := ∀ a u, F a = some u → isSq u → F' a = some u
theorem SubS.t {F F' : Hp} (s : SubS F F') {a : Addr} {xs : List V} (h : Rd F a (.tup xs)) : Rd F' a (.tup xs) := h.imp (fun e => s _ _ e trivial) fun ⟨o, e⟩ => ⟨o, s _ _ e trivial⟩
theorem SubS.l {F F' : Hp} (s : SubS F F') {a : Addr} {xs : List V} (h : Rd F a (.lst xs)) : Rd F' a (.lst xs) := h.imp (fun e => s _ _ e trivial) fun ⟨o, e⟩ => ⟨o, s _ _ e trivial⟩
section
variable {wd : World} {K : Fg} {mg : Str → Option Value} {α β : List Addr} {F F' H H1 : Hp} {S : Sto}
mutual
theorem DV.stay {v : V} {d : D} (s : SubS F F') : DV wd K mg F α v d → DV wd K mg F' α v d
  | .non => .non
  | .bl b => .bl b
  | .int i => .int i
  | .str x => .str x
  | .tup h t => .tup ⟨h.1.imp s.t id, h.2.imp (fun ⟨o, e, q⟩ => ⟨o, s _ _ e trivial, q⟩) id⟩ (DVs.stay s t)
  | .tux h t => .tux (h.imp s.t id) (DVs.stay s t)
  | .lst h t => .lst (h.imp s.l id) (DVs.stay s t)
  | .ptr h => .ptr h
  | .fn h => .fn h
  | .ty n => .ty n
theorem DVs.stay {vs : List V} {ds : List D} (s : SubS F F') : DVs wd K mg F α vs ds → DVs wd K mg F' α vs ds
  | .nil => .nil
  | .cons h t => .cons (DV.stay s h) (DVs.stay s t)
end
theorem NVs.stay {xs : List (NestedKey × Addr × V)} {kvs : List (D × D)} (s : SubS F F') (h : NVs wd K mg F α xs kvs) : NVs wd K mg F' α xs kvs := by
  induction h with
  | nil => exact .nil
  | cons h1 h2 h3 h4 h5 _ ih => exact .cons h1 h2 (h3.stay s) h4 (h5.stay s) ih
/-- what may be locked -/
def Lkd (wd : World) (a : Addr) (u : HO) : Prop := (∃ ws, u = .dK ws) ∨ ∃ xs, u = dN wd a xs
theorem Lkd.mut {a : Addr} {u : HO} (h : Lkd wd a u) : Mut (some u) := by
  rcases h with ⟨ws, rfl⟩ | ⟨xs, rfl⟩ <;> exact True.intro
/-- F without a -/
def erase (F : Hp) (a : Addr) : Hp := fun b => if b = a then none else F b
theorem erase_same {a : Addr} : erase F a a = none := by unfold erase; rw [if_pos rfl]
theorem erase_ne {a b : Addr} (h : b ≠ a) : erase F a b = F b := by unfold erase; rw [if_neg h]
theorem erase_stay {a : Addr} {o : Obj} {u : HO} (h : F a = some (.frz o u)) (hu : Lkd wd a u) : SubS F (erase F a) := by
  intro b v e q
  have z : b ≠ a := fun z => by
    subst z
    rw [h] at e
    cases e
    rcases hu with ⟨ws, rfl⟩ | ⟨ys, rfl⟩ <;> exact q
  rw [erase_ne z]; exact e
theorem Own.toLck {a : Addr} {d : D} {u : HO} (od : Obj) (h : Own wd K mg F α H a d) (hF : F a = none) (hu : H a = some u) (hl : Lkd wd a u) (hd : (∃ kvs, d = .dct kvs) ∨ ∃ kvs, d = .dcn kvs) :
    Own wd K mg (upd F a (.frz od u)) α (upd H a (.frz od u)) a (.lck d) := by
  have sb : Sub F (upd F a (.frz od u)) := Sub.new hF
  rcases hd with ⟨kvs, rfl⟩ | ⟨kvs, rfl⟩
  · obtain ⟨ws, h1, h2, h3⟩ := h
    rw [hu] at h1
    cases h1
    have h4 := h3.mono (β := []) sb
    rw [List.append_nil] at h4
    exact ⟨od, ws, upd_same, upd_same, h2, h4⟩
  · obtain ⟨xs, h1, h2⟩ := h
    rw [hu] at h1
    cases h1
    have h4 := h2.mono (β := []) sb
    rw [List.append_nil] at h4
    exact ⟨od, xs, upd_same, upd_same, h4⟩
/-- the thing at k is locked -/
theorem Rel.lock (r : Rel wd K mg α F H S) {k : Nat} {a : Addr} {u : HO} {d : D} (od : Obj) (h1 : α[k]? = some a) (h2 : S[k]? = some d) (hd : (∃ kvs, d = .dct kvs) ∨ ∃ kvs, d = .dcn kvs) (hu : H a = some u) (hl : Lkd wd a u) :
    Rel wd K mg α (upd F a (.frz od u)) (upd H a (.frz od u)) (S.set k (.lck d)) ∧ Sub F (upd F a (.frz od u)) ∧ F a = none := by
  obtain ⟨o1, o2⟩ := r.own k a d h1 h2
  have hF : F a = none := o2 (by rcases hd with ⟨_, rfl⟩ | ⟨_, rfl⟩ <;> rfl)
  have sb : Sub F (upd F a (.frz od u)) := Sub.new hF
  have hn := r.nd
  refine ⟨⟨fun b v e => ?_, by rw [List.length_set]; exact r.len, r.nd, fun b hb => ?_, fun j b e g1 g2 => ?_⟩, sb, hF⟩
  · by_cases z : b = a
    · subst z; rw [upd_same] at e ⊢; exact e
    · rw [upd_ne z] at e ⊢; exact r.sub _ _ e
  · by_cases z : b = a
    · subst z; exact ⟨_, upd_same⟩
    · obtain ⟨v, e⟩ := r.here b hb
      exact ⟨v, by rw [upd_ne z]; exact e⟩
  · by_cases z : j = k
    · subst z
      rw [h1] at g1; cases g1
      rw [List.getElem?_set_self (List.getElem?_eq_some_iff.mp h2).1] at g2
      cases g2
      exact ⟨Own.toLck od o1 hF hu hl hd, fun z => by cases z⟩
    · rw [List.getElem?_set_ne (Ne.symm z)] at g2
      obtain ⟨h3, h4⟩ := r.own j b e g1 g2
      have y : b ≠ a := fun y => by
        subst y
        exact z ((List.getElem_inj hn).mp ((List.getElem?_eq_some_iff.mp g1).2.trans (List.getElem?_eq_some_iff.mp h1).2.symm))
      have h5 := h3.mono (β := []) (H' := upd H a (.frz od u)) sb (upd_ne y)
      rw [List.append_nil] at h5
      exact ⟨h5, fun hd => by rw [upd_ne y]; exact h4 hd⟩
/-- and let go again -/
theorem Rel.unlock (r : Rel wd K mg α F H S) {k : Nat} {a : Addr} {u : HO} {od : Obj} {d : D} (h1 : α[k]? = some a) (h2 : S[k]? = some (.lck d)) (hF : F a = some (.frz od u)) (hl : Lkd wd a u) :
    Rel wd K mg α (erase F a) (upd H a u) (S.set k d) := by
  have st : SubS F (erase F a) := erase_stay hF hl
  have hH : H a = some (.frz od u) := r.sub _ _ hF
  have hn := r.nd
  refine ⟨fun b v e => ?_, by rw [List.length_set]; exact r.len, r.nd, fun b hb => ?_, fun j b e g1 g2 => ?_⟩
  · by_cases z : b = a
    · subst z; rw [erase_same] at e; cases e
    · rw [erase_ne z] at e; rw [upd_ne z]; exact r.sub _ _ e
  · by_cases z : b = a
    · subst z; exact ⟨_, upd_same⟩
    · obtain ⟨v, e⟩ := r.here b hb
      exact ⟨v, by rw [upd_ne z]; exact e⟩
  · by_cases z : j = k
    · subst z
      rw [h1] at g1; cases g1
      rw [List.getElem?_set_self (List.getElem?_eq_some_iff.mp h2).1] at g2
      cases g2
      obtain ⟨o1, _⟩ := r.own j a _ h1 h2
      refine ⟨?_, fun _ => erase_same⟩
      cases d with
      | dct kvs =>
        obtain ⟨o, ws, q0, q1, q2, q3⟩ := o1
        rw [hF] at q0
        cases q0
        exact ⟨ws, upd_same, q2, q3.stay st⟩
      | dcn kvs =>
        obtain ⟨o, xs, q0, q1, q2⟩ := o1
        rw [hF] at q0
        cases q0
        exact ⟨xs, upd_same, q2.stay st⟩
      | _ => exact o1.elim
    · rw [List.getElem?_set_ne (Ne.symm z)] at g2
      obtain ⟨h3, h4⟩ := r.own j b e g1 g2
      have y : b ≠ a := fun y => by
        subst y
        exact z ((List.getElem_inj hn).mp ((List.getElem?_eq_some_iff.mp g1).2.trans (List.getElem?_eq_some_iff.mp h1).2.symm))
      refine ⟨?_, fun hd => by rw [erase_ne y]; exact h4 hd⟩
      cases e with
      | lst ds => obtain ⟨xs, q1, q2⟩ := h3; exact ⟨xs, by rw [upd_ne y]; exact q1, q2.stay st⟩
      | dct kvs => obtain ⟨ws, q1, q2, q3⟩ := h3; exact ⟨ws, by rw [upd_ne y]; exact q1, q2, q3.stay st⟩
      | dcn kvs => obtain ⟨ws, q1, q2⟩ := h3; exact ⟨ws, by rw [upd_ne y]; exact q1, q2.stay st⟩
      | lck e =>
        cases e with
        | dct kvs => obtain ⟨o, ws, q0, q1, q2, q3⟩ := h3; exact ⟨o, ws, by rw [erase_ne y]; exact q0, by rw [upd_ne y]; exact q1, q2, q3.stay st⟩
        | dcn kvs => obtain ⟨o, ws, q0, q1, q2⟩ := h3; exact ⟨o, ws, by rw [erase_ne y]; exact q0, by rw [upd_ne y]; exact q1, q2.stay st⟩
        | _ => exact h3.elim
      | non => trivial
      | _ => exact h3.elim
theorem Stp.lock {a : Addr} {u : HO} {od : Obj} {F2 H2 : Hp} (s : Stp α (upd F a (.frz od u)) (upd H a (.frz od u)) β F2 H2) (hF : F a = none) (hu : H a = some u) (ha : a ∈ α) : Stp α F H β (erase F2 a) (upd H2 a u) := by
  refine ⟨fun b hb => upd_none (s.new b hb), fun b v e => ?_, fun b o hb e => ?_, fun b e => ?_, fun b h1 h2 h3 => ?_⟩
  · have z : b ≠ a := fun z => by subst z; rw [hF] at e; cases e
    rw [erase_ne z]
    exact s.sub _ _ (by rw [upd_ne z]; exact e)
  · have z : b ≠ a := fun z => hb (z ▸ ha)
    rw [upd_ne z]
    exact s.frame b o hb (by rw [upd_ne z]; exact e)
  · have z : b ≠ a := fun z => by subst z; rw [upd_same] at e; cases e
    rw [upd_ne z] at e
    have := s.live b e
    rw [upd_ne z] at this
    exact this
  · have z : b ≠ a := fun z => h1 (z ▸ ha)
    rw [erase_ne z]
    exact s.fnew b h1 (by rw [upd_ne z]; exact h2) (by rw [upd_ne z]; exact h3)
theorem Slots.stay {σ : L2.St} {δ : Sl} (s : SubS F F') (h : Slots wd K mg F α σ δ) : Slots wd K mg F' α σ δ := ⟨h.1, fun i d e => let ⟨v, h1, h2⟩ := h.2 i d e; ⟨v, h1, h2.stay s⟩⟩
end
/-- the dict that slot i holds, if it is open -/
def lockAt (δ : Sl) (S : Sto) (i : Nat) : Option (Nat × D) := match δ[i]? with
  | some (some (.ptr k)) => (match S[k]? with
    | some (.dct kvs) => some (k, .dct kvs)
    | some (.dcn kvs) => some (k, .dcn kvs)
    | _ => none)
  | _ => none
def unlk (k : Nat) (S : Sto) : Option Sto := match S[k]? with
  | some (.lck d) => some (S.set k d)
  | _ => none
def unlkO (k : Nat) : Out → Out
  | .nx δ S => (match unlk k S with | some S' => .nx δ S' | none => .stuck)
  | .rt d S => (match unlk k S with | some S' => .rt d S' | none => .stuck)
  | .bk δ S => (match unlk k S with | some S' => .bk δ S' | none => .stuck)
  | .ct δ S => (match unlk k S with | some S' => .ct δ S' | none => .stuck)
  | o => o
/-- the dict of slot i is locked meanwhile -/
def sLock (i : Nat) (r : RS) : RS := fun δ S => match lockAt δ S i with
  | some (k, d) => unlkO k (r δ (S.set k (.lck d)))
  | none => r δ S
section
variable {X : Cx} {W : WX} {st : Stmt} {e : Expr} {r : RS} {ra : RE} {wd : World} {K : Fg} {mg : Str → Option Value} {α β : List Addr} {F F' H H1 : Hp} {S : Sto}
/-- locked, or not -/
def tMay (t : TS) : TS := fun D σ H => t D σ H ∨ tLock t D σ H
theorem ps_may {t : TS} (h : PS X st t) : PS X st (tMay t) := ⟨fun pins s σ H D I q => q.elim (h.run pins s σ H D I) ((ps_lock h).run pins s σ H D I)⟩
theorem psd_lock (i : Nat) (h : PSd X W st r) : PSd X W st (sLock i r) := by
  obtain ⟨t, p1, s1⟩ := h.ex
  refine ⟨_, ps_may p1, fun α F σ H δ S E hr hs q => ?_⟩
  unfold sLock at q
  split at q
  · rename_i k d e1
    refine .inr ?_
    unfold lockAt at e1
    split at e1
    · rename_i k' e2
      obtain ⟨v, g1, g2⟩ := hs.2 i _ e2
      cases g2 with
      | @ptr _ a ea =>
        have key : ∃ d', S[k']? = some d' ∧ k = k' ∧ d = d' ∧ ((∃ kvs, d' = .dct kvs) ∨ ∃ kvs, d' = .dcn kvs) := by
          split at e1
          · rename_i kvs e3; cases e1; exact ⟨_, e3, rfl, rfl, .inl ⟨_, rfl⟩⟩
          · rename_i kvs e3; cases e1; exact ⟨_, e3, rfl, rfl, .inr ⟨_, rfl⟩⟩
          · cases e1
        obtain ⟨d', e3, rfl, rfl, hd⟩ := key
        clear e1
        obtain ⟨o1, o2⟩ := hr.own _ _ _ ea e3
        obtain ⟨u, hu, hl⟩ : ∃ u, H a = some u ∧ Lkd X.w a u := by
          rcases hd with ⟨kvs, rfl⟩ | ⟨kvs, rfl⟩
          · obtain ⟨ws, q1, _⟩ := o1; exact ⟨_, q1, .inl ⟨ws, rfl⟩⟩
          · obtain ⟨xs, q1, _⟩ := o1; exact ⟨_, q1, .inr ⟨xs, rfl⟩⟩
        refine ⟨a, u, hu, hl.mut, fun od => ?_⟩
        obtain ⟨r1, sb, hF⟩ := hr.lock od ea e3 hd hu hl
        have hs1 := hs.mono (β := []) sb
        rw [List.append_nil] at hs1
        have ha : a ∈ α := List.mem_of_getElem? ea
        refine s1 α _ σ _ δ _ _ r1 hs1 ?_
        have fin : ∀ {S' : Sto} {β : List Addr} {F' H' : Hp}, Rel X.w X.K X.mg (α ++ β) F' H' S' → Stp α (upd F a (.frz od u)) (upd H a (.frz od u)) β F' H' → ∀ S2, unlk k S' = some S2 →
            H' a = some (.frz od u) ∧ Rel X.w X.K X.mg (α ++ β) (erase F' a) (upd H' a u) S2 ∧ Stp α F H β (erase F' a) (upd H' a u) ∧ SubS F' (erase F' a) := by
          intro S' β F' H' r2 st2 S2 e4
          have f1 : F' a = some (.frz od u) := st2.sub _ _ upd_same
          unfold unlk at e4
          split at e4
          · rename_i d2 e5
            cases e4
            exact ⟨r2.sub _ _ f1, r2.unlock (at_app ea) e5 f1 hl, st2.lock hF hu ha, erase_stay f1 hl⟩
          · cases e4
        cases c : r δ (S.set k (.lck d)) with
        | nx δ' S' =>
          rw [c] at q
          intro σ' H' β F' r2 st2 sl2
          unfold unlkO at q
          dsimp only at q
          split at q
          · rename_i S2 e4
            obtain ⟨f1, f2, f3, f4⟩ := fin r2 st2 S2 e4
            exact ⟨f1, q _ _ _ _ f2 f3 (sl2.stay f4)⟩
          · exact q.elim
        | rt v S' =>
          rw [c] at q
          intro σ' H' β F' r2 st2 sl2
          unfold unlkO at q
          dsimp only at q
          split at q
          · rename_i S2 e4
            obtain ⟨f1, f2, f3, f4⟩ := fin r2 st2 S2 e4
            exact ⟨f1, q _ _ _ _ f2 f3 (sl2.stay f4)⟩
          · exact q.elim
        | bk δ' S' =>
          rw [c] at q
          intro σ' H' β F' r2 st2 sl2
          unfold unlkO at q
          dsimp only at q
          split at q
          · rename_i S2 e4
            obtain ⟨f1, f2, f3, f4⟩ := fin r2 st2 S2 e4
            exact ⟨f1, q _ _ _ _ f2 f3 (sl2.stay f4)⟩
          · exact q.elim
        | ct δ' S' =>
          rw [c] at q
          intro σ' H' β F' r2 st2 sl2
          unfold unlkO at q
          dsimp only at q
          split at q
          · rename_i S2 e4
            obtain ⟨f1, f2, f3, f4⟩ := fin r2 st2 S2 e4
            exact ⟨f1, q _ _ _ _ f2 f3 (sl2.stay f4)⟩
          · exact q.elim
        | err cl fs δ' S' =>
          rw [c] at q
          intro cls dd σ' H' β F' r2 st2 sl2 er
          refine q cls dd σ' H' β F' r2 ⟨fun b hb => upd_none (st2.new b hb), sb.trans st2.sub, fun b o hb e => ?_, fun b e => upd_none (st2.live b e), fun b h1 h2 h3 => ?_⟩ sl2 er
          · have z : b ≠ a := fun z => hb (z ▸ ha)
            exact st2.frame b o hb (by rw [upd_ne z]; exact e)
          · have z : b ≠ a := fun z => h1 (z ▸ ha)
            exact st2.fnew b h1 (by rw [upd_ne z]; exact h2) (by rw [upd_ne z]; exact h3)
        | stuck => rw [c] at q; exact q.elim
    · cases e1
  · exact .inl (s1 α F σ H δ S E hr hs q)
/-- what is never reached -/
def rNever : RE := fun _ _ => .stuck
theorem pd_never : PD X W e rNever := ⟨fun _ _ _ => False, ⟨fun _ _ _ _ _ _ h => h.elim⟩, fun α F σ H δ S Q hr hs h => h⟩
end
end DL

set_option Elab.async false
set_option linter.all false
set_option maxRecDepth 100000
set_option maxHeartbeats 4000000
set_option autoImplicit false
/-! Data layer: order of data, sorting, the greatest and the least. -/
namespace DL
open PySem PySem.Spec PyProof.Rows L2

def notNone : PyData → Bool
  | .none => false
  | _ => true
/-- two data that may be compared -/
def twoD (S : Sto) (d e : D) : Option (PyData × PyData) := match toPy S (deref S d), toPy S (deref S e) with
  | some x, some y => if PySem.W.alike x y && (notNone x && decide (x.depth ≤ 40)) then some (x, y) else none
  | _, _ => none
def gLtU : Sto → D → D → Option D := fun S d e => match d, e with
  | .int i, .int j => some (.bl (decide (i < j)))
  | _, _ => (twoD S d e).map fun p => .bl (PySem.W.dataLt p.1 p.2)
def gLeU : Sto → D → D → Option D := fun S d e => match d, e with
  | .int i, .int j => some (.bl (decide (i ≤ j)))
  | _, _ => (twoD S d e).map fun p => .bl (!PySem.W.dataLt p.2 p.1)
def gGtU : Sto → D → D → Option D := fun S d e => match d, e with
  | .int i, .int j => some (.bl (decide (j < i)))
  | _, _ => (twoD S d e).map fun p => .bl (PySem.W.dataLt p.2 p.1)
def gGeU : Sto → D → D → Option D := fun S d e => match d, e with
  | .int i, .int j => some (.bl (decide (j ≤ i)))
  | _, _ => (twoD S d e).map fun p => .bl (!PySem.W.dataLt p.1 p.2)
def rCmp (K : Fg) (f : PyData → PyData → Bool) : R2 := fun x y H Q => ∃ d e, Dp K H x d ∧ Dp K H y e ∧ PySem.W.alike d e = true ∧ d ≠ .none ∧ d.depth ≤ 40 ∧ Q (.bl (f d e)) H
section
variable {X : Cx}
theorem op_ltU (hu : X.A.units + 64 < cLine) : OpR X (compareOp .Lt) (rCmp X.K PySem.W.dataLt) := by
  intro pins s σ H x y v u Q I rx ry h
  obtain ⟨d, e, hd, he, al, nn, dp, q⟩ := h
  obtain ⟨as, r1⟩ := Dp.reads I d x v hd rx
  obtain ⟨bs, r2⟩ := Dp.reads I e y u he ry
  exact PySem.W.lt_data r1 r2 al nn (by omega) ⟨.bl _, H, I, rfl, q⟩
theorem op_leU (hu : X.A.units + 64 < cLine) : OpR X (compareOp .LtE) (rCmp X.K fun d e => !PySem.W.dataLt e d) := by
  intro pins s σ H x y v u Q I rx ry h
  obtain ⟨d, e, hd, he, al, nn, dp, q⟩ := h
  obtain ⟨as, r1⟩ := Dp.reads I d x v hd rx
  obtain ⟨bs, r2⟩ := Dp.reads I e y u he ry
  exact PySem.W.le_data r1 r2 al nn (by omega) ⟨.bl _, H, I, rfl, q⟩
theorem op_gtU (hu : X.A.units + 64 < cLine) : OpR X (compareOp .Gt) (rCmp X.K fun d e => PySem.W.dataLt e d) := by
  intro pins s σ H x y v u Q I rx ry h
  obtain ⟨d, e, hd, he, al, nn, dp, q⟩ := h
  obtain ⟨as, r1⟩ := Dp.reads I d x v hd rx
  obtain ⟨bs, r2⟩ := Dp.reads I e y u he ry
  exact PySem.W.gt_data r1 r2 al nn (by omega) ⟨.bl _, H, I, rfl, q⟩
theorem op_geU (hu : X.A.units + 64 < cLine) : OpR X (compareOp .GtE) (rCmp X.K fun d e => !PySem.W.dataLt d e) := by
  intro pins s σ H x y v u Q I rx ry h
  obtain ⟨d, e, hd, he, al, nn, dp, q⟩ := h
  obtain ⟨as, r1⟩ := Dp.reads I d x v hd rx
  obtain ⟨bs, r2⟩ := Dp.reads I e y u he ry
  exact PySem.W.ge_data r1 r2 al nn (by omega) ⟨.bl _, H, I, rfl, q⟩
theorem alike_int (i j : Int) : PySem.W.alike (.int i) (.int j) = true := by simp [PySem.W.alike]
theorem depth_int (i : Int) : (PyData.int i).depth ≤ 40 := by simp [PyData.depth]
theorem cmpU {f : PyData → PyData → Bool} {g : Sto → D → D → Option D} {op : CmpOp} {h : Int → Int → Bool} (ho : OpR X (compareOp op) (rCmp X.K f)) (hi : ∀ i j, f (.int i) (.int j) = h i j)
    (hg : ∀ S d e z, g S d e = some z → (∃ i j, d = .int i ∧ e = .int j ∧ z = .bl (h i j)) ∨ ∃ p, twoD S d e = some p ∧ z = .bl (f p.1 p.2)) : OpG X (compareOp op) g := by
  refine ⟨_, ho, fun α F H S x y d e z Q hr hx hy hz q => ?_⟩
  rcases hg S d e z hz with ⟨i, j, rfl, rfl, rfl⟩ | ⟨p, h1, rfl⟩
  · cases hx; cases hy
    refine ⟨.int i, .int j, .int i, .int j, alike_int i j, by simp, depth_int i, ?_⟩
    rw [hi]
    exact fin_now hr (.bl _) q
  · unfold twoD at h1
    split at h1
    · rename_i x' y' e1 e2
      split at h1
      · rename_i hc
        cases h1
        rw [Bool.and_eq_true, Bool.and_eq_true] at hc
        exact ⟨x', y', hr.dp hx e1, hr.dp hy e2, hc.1, (by intro z; subst z; exact absurd hc.2.1 (by decide)), of_decide_eq_true hc.2.2, fin_now hr (.bl _) q⟩
      · cases h1
    · cases h1
theorem g_ltU (hu : X.A.units + 64 < cLine) : OpG X (compareOp .Lt) gLtU := cmpU (op_ltU hu) (h := fun i j => decide (i < j)) (fun i j => PySem.W.dataLt_int i j) fun S d e z hz => by
  unfold gLtU at hz
  split at hz
  · cases hz; exact .inl ⟨_, _, rfl, rfl, rfl⟩
  · obtain ⟨p, h1, h2⟩ := Option.map_eq_some_iff.mp hz
    exact .inr ⟨p, h1, h2.symm⟩
theorem g_gtU (hu : X.A.units + 64 < cLine) : OpG X (compareOp .Gt) gGtU := cmpU (op_gtU hu) (h := fun i j => decide (j < i)) (fun i j => PySem.W.dataLt_int j i) fun S d e z hz => by
  unfold gGtU at hz
  split at hz
  · cases hz; exact .inl ⟨_, _, rfl, rfl, rfl⟩
  · obtain ⟨p, h1, h2⟩ := Option.map_eq_some_iff.mp hz
    exact .inr ⟨p, h1, h2.symm⟩
theorem not_lt_le (i j : Int) : (!decide (j < i)) = decide (i ≤ j) := by
  by_cases h : j < i
  · rw [decide_eq_true h, decide_eq_false (by omega)]; rfl
  · rw [decide_eq_false h, decide_eq_true (by omega)]; rfl
theorem g_leU (hu : X.A.units + 64 < cLine) : OpG X (compareOp .LtE) gLeU := cmpU (op_leU hu) (h := fun i j => decide (i ≤ j)) (fun i j => by rw [PySem.W.dataLt_int]; exact not_lt_le i j) fun S d e z hz => by
  unfold gLeU at hz
  split at hz
  · cases hz; exact .inl ⟨_, _, rfl, rfl, rfl⟩
  · obtain ⟨p, h1, h2⟩ := Option.map_eq_some_iff.mp hz
    exact .inr ⟨p, h1, h2.symm⟩
theorem g_geU (hu : X.A.units + 64 < cLine) : OpG X (compareOp .GtE) gGeU := cmpU (op_geU hu) (h := fun i j => decide (j ≤ i)) (fun i j => by rw [PySem.W.dataLt_int]; exact not_lt_le j i) fun S d e z hz => by
  unfold gGeU at hz
  split at hz
  · cases hz; exact .inl ⟨_, _, rfl, rfl, rfl⟩
  · obtain ⟨p, h1, h2⟩ := Option.map_eq_some_iff.mp hz
    exact .inr ⟨p, h1, h2.symm⟩
end
/-! ### sorting -/
def tupFull : PyData → Bool
  | .tuple (_ :: _) => true
  | _ => false
def noTup : PyData → Bool
  | .none => false
  | .tuple _ => false
  | _ => true
def sortable (ps : List PyData) : Bool := (ps.all tupFull || ps.all noTup) && ((ps.all fun x => ps.all fun y => PySem.W.alike x y) && ps.all fun x => decide (x.depth ≤ 40))
def sortBy {A : Type} (xs : List A) (ps : List PyData) : List A := ((xs.zip ps).mergeSort (PySem.W.dataLe false (·.2))).map (·.1)
def sortD (S : Sto) (xs : List D) : Option (List D) := match toPys S xs with
  | some ps => if sortable ps && decide (xs.length ≤ sizeLine) then some (sortBy xs ps) else none
  | none => none
def gSorted : Sto → List D → Option D := fun S ds => match ds with
  | [d] => (match deref S d with
    | .lst xs => (sortD S xs).map .lst
    | _ => none)
  | _ => none
theorem sortBy_length {A : Type} {xs : List A} {ps : List PyData} (h : xs.length = ps.length) : (sortBy xs ps).length = xs.length := by
  unfold sortBy
  rw [List.length_map, List.length_mergeSort, List.length_zip, h, Nat.min_self]
section
open PySem.W
variable {wd : World} {K : Fg} {mg : Str → Option Value} {α β : List Addr} {F F1 H H1 : Hp} {S : Sto}
theorem dpAll_length {xs : List V} {ps : List PyData} (h : DpAll K H xs ps) : xs.length = ps.length := by
  match h with
  | .nil => rfl
  | .cons _ t => rw [List.length_cons, List.length_cons, dpAll_length t]
theorem zip_each {A B : Type} {R : A → B → Prop} : ∀ {as : List A} {bs : List B} (ps : List PyData), EachIs R as bs → EachIs (fun (x : A × PyData) (y : B × PyData) => R x.1 y.1 ∧ x.2 = y.2) (as.zip ps) (bs.zip ps)
  | _, _, _, .nil => .nil
  | _, _, [], .cons _ _ => .nil
  | _, _, p :: ps, .cons h t => .cons ⟨h, rfl⟩ (zip_each ps t)
theorem each_map2 {A B A' B' : Type} {R : A → B → Prop} {R' : A' → B' → Prop} (f : A → A') (g : B → B') (h : ∀ a b, R a b → R' (f a) (g b)) : ∀ {as : List A} {bs : List B}, EachIs R as bs → EachIs R' (as.map f) (bs.map g)
  | _, _, .nil => .nil
  | _, _, .cons a t => .cons (h _ _ a) (each_map2 f g h t)
/-- things sorted by the same data -/
theorem sortBy_each {A B : Type} {R : A → B → Prop} {as : List A} {bs : List B} (ps : List PyData) (h : EachIs R as bs) : EachIs R (sortBy as ps) (sortBy bs ps) := by
  unfold sortBy
  have z := zip_each ps h
  refine each_map2 (·.1) (·.1) (fun a b q => q.1) (sort_each z ?_)
  intro p hp q hq
  have e1 := (EachIs.zip z p hp).2
  have e2 := (EachIs.zip z q hq).2
  unfold dataLe sortLe
  dsimp only
  rw [e1, e2]
theorem each_dvs : ∀ {us : List V} {ds : List D}, EachIs (fun v d => DV wd K mg F α v d) us ds → DVs wd K mg F α us ds
  | _, _, .nil => .nil
  | _, _, .cons h t => .cons h (each_dvs t)
theorem dvs_each : ∀ {us : List V} {ds : List D}, DVs wd K mg F α us ds → EachIs (fun v d => DV wd K mg F α v d) us ds
  | _, _, .nil => .nil
  | _, _, .cons h t => .cons h (dvs_each t)
theorem DVs.sort {us : List V} {ds : List D} (h : DVs wd K mg F α us ds) (ps : List PyData) : DVs wd K mg F α (sortBy us ps) (sortBy ds ps) := each_dvs (sortBy_each ps (dvs_each h))
end
def rSortU (X : Cx) : List V → Hp → VK → Prop := fun vs H Q => ∃ (a : Addr) (us : List V) (ps : List PyData), vs = [.ref a] ∧ SqL X.K H a us ∧ DpAll X.K H us ps ∧ sortable ps = true ∧ us.length ≤ sizeLine ∧ Lays H (sortBy us ps) Q
section
open PySem.W
variable {X : Cx} {W : WX} {a b c e tg : Expr} {es rest : List Expr} {ra rb rc : RE} {rs : RA} {pos p : Pos}
theorem vals_each {s : Shared} {σ : L2.St} {H : Hp} {pins : List (Addr × Obj)} (I : Inv X pins σ H s) : ∀ {us : List V} {ps : List PyData} {vs : List Value}, DpAll X.K H us ps → Vals us vs →
    EachIs (fun u (b : V × PyData) => RelV b.1 u) vs (us.zip ps) ∧ EachIs (fun u (b : V × PyData) => ∃ as, Reads s.heap u b.2 as) vs (us.zip ps)
  | _, _, _, .nil, r => by cases r; exact ⟨.nil, .nil⟩
  | _, _, _, .cons h t, r => by
    cases r with
    | cons r1 r2 =>
      obtain ⟨h1, h2⟩ := vals_each I t r2
      exact ⟨.cons r1 h1, .cons (Dp.reads I _ _ _ h r1) h2⟩
theorem each_vals : ∀ {us : List V} {vs : List Value}, EachIs (fun u v => RelV v u) vs us → Vals us vs
  | _, _, .nil => .nil
  | _, _, .cons h t => .cons h (each_vals t)
theorem cr_sortU (hu : X.A.units + 64 < cLine) : CallR X (.builtin "sorted") (rSortU X) := by
  intro pins s σ H vs us Q I r h
  obtain ⟨a, xs, ps, rfl, hs, hd, hk, hl, q⟩ := h
  obtain ⟨its, rv, pl, _⟩ := I.list hs
  rw [Vals.ref1 r]
  obtain ⟨e1, e2⟩ := vals_each I hd rv
  unfold sortable at hk
  rw [Bool.and_eq_true, Bool.and_eq_true, Bool.or_eq_true] at hk
  obtain ⟨k1, k2, k3⟩ := hk
  have ml : (xs.zip ps).map (·.2) = ps := List.map_snd_zip (by rw [(dpAll_length hd)]; exact Nat.le_refl _)
  have hal : AllAlike ((xs.zip ps).map (·.2)) := by
    rw [ml]
    intro d hd d' hd'
    exact List.all_eq_true.mp (List.all_eq_true.mp k2 d hd) d' hd'
  have hso : Sortable ((xs.zip ps).map (·.2)) := by
    rw [ml]
    rcases k1 with k1 | k1
    · refine .inl fun d hd => ?_
      have := List.all_eq_true.mp k1 d hd
      match d, this with
      | .tuple (x :: r), _ => exact ⟨x, r, rfl⟩
    · refine .inr fun d hd => ?_
      have := List.all_eq_true.mp k1 d hd
      refine ⟨fun z => ?_, fun xs z => ?_⟩ <;> subst z <;> exact absurd this (by simp [noTup])
  refine sorted_data (enc := fun b : V × PyData => b.2) pl.isList e1 e2 hal hso (by rw [List.length_zip, (dpAll_length hd), Nat.min_self, ← (dpAll_length hd)]; exact hl) (fun b hb => ?_) fun out h1 h2 => ?_
  · have := of_decide_eq_true (List.all_eq_true.mp k3 b.2 (by rw [← ml]; exact List.mem_map.mpr ⟨b, hb, rfl⟩))
    omega
  · obtain ⟨ep, he'⟩ := PyProof.Rows.sortedAll_at s.heap its (List.toArray out)
    have hv : Vals (sortBy xs ps) out := each_vals (by
      have := each_map2 (R' := fun u v => RelV v u) (fun x => x) (fun b : V × PyData => b.1) (fun _ _ q => q) h2
      rw [List.map_id'] at this
      exact this)
    have hlen : (sortBy xs ps).length ≤ sizeLine := by rw [sortBy_length (dpAll_length hd)]; exact hl
    exact ⟨.ref _, upd H (s.heap.objs.size + 1) (.lst (sortBy xs ps)), I.laid (t' := s.toks) (fun _ _ => PyProof.Rows.sortedAll_old) (Nat.le_succ _) ⟨hlen, out, ep, hv, he'⟩, rfl, q _ (I.hok.fresh (Nat.le_succ _))⟩
/-- by a call of a built-in -/
theorem pf_callB {x : Str} {T : String} {g : Sto → List D → Option D} {r : List V → Hp → VK → Prop} (hc : CallR X (.builtin T) r) (hgk : ∀ α F H S xs ds z Q, Rel X.w X.K X.mg α F H S → DVs X.w X.K X.mg F α xs ds → g S ds = some z → ∃ es us, z = .lst es ∧ DVs X.w X.K X.mg F α us es ∧ (Lays H us Q → r xs H Q))
    (hm : X.mg x = none) (ha : PDs X W (e :: es) rs) (hg : Gl X x := by rfl) (hv : bootBuiltins x = some (.builtin T) := by decide +kernel) (hn : x ≠ "__name__" := by decide) (hdb : (x == ("__debug__" : Str)) = false := by decide)
    (he : starEach (e :: es) X.env = (false, eval e X.env) :: starEach es X.env := by rfl) (hpl : (backTo pos (starEach es X.env)).any (·.1) = false := by rfl) : PF X W (.Call (.Name x p) (e :: es) [] pos) (rAs g rs) := by
  obtain ⟨t, pt, st⟩ := ha.ex
  refine ⟨_, pe_callB hc hg hm hv pt hn hdb he hpl, fun α F σ H δ S Q hr hs h => ?_⟩
  refine st α F σ H δ S _ hr hs (wpF.bind h fun ds S1 _ xs H1 β F1 r1 q1 v1 h1 => ?_)
  cases eg : g S1 ds with
  | none => rw [eg] at h1; exact h1.elim
  | some z =>
    rw [eg] at h1
    obtain ⟨es', us, rfl, e1, e2⟩ := hgk _ F1 H1 S1 xs ds z Q r1 v1 eg
    exact e2 fun p hp => wpF.lay h1 r1 hp ⟨us, upd_same, e1⟩ rfl
theorem pf_sorted (hu : X.A.units + 64 < cLine) (hm : X.mg "sorted" = none) (ha : PDs X W (e :: es) rs) (hg : Gl X "sorted" := by rfl) (he : starEach (e :: es) X.env = (false, eval e X.env) :: starEach es X.env := by rfl) (hpl : (backTo pos (starEach es X.env)).any (·.1) = false := by rfl) :
    PF X W (.Call (.Name "sorted" p) (e :: es) [] pos) (rAs gSorted rs) := pf_callB (cr_sortU hu) (fun α F H S xs ds z Q hr hv hz => by
  unfold gSorted at hz
  split at hz
  · cases hv with
    | cons h1 h2 =>
      cases h2
      split at hz
      · rename_i ys e1
        obtain ⟨zs, e2, rfl⟩ := Option.map_eq_some_iff.mp hz
        obtain ⟨l, us, rfl, a1, a2⟩ := hr.viewL h1 e1
        unfold sortD at e2
        split at e2
        · rename_i ps e3
          split at e2
          · rename_i hc
            cases e2
            rw [Bool.and_eq_true] at hc
            exact ⟨_, sortBy us ps, rfl, a2.sort ps, fun q => ⟨l, us, ps, rfl, a1, a2.dp e3 hr.sub, hc.1, by rw [a2.length]; exact of_decide_eq_true hc.2, q⟩⟩
          · cases e2
        · cases e2
      · cases hz
  · cases hz) hm ha hg (by decide +kernel) (by decide) (by decide) he hpl
end
/-! ### the greatest and the least of numbers -/
def maxI : List Int → Option Int
  | [] => none
  | i :: r => some (r.foldl max i)
def minI : List Int → Option Int
  | [] => none
  | i :: r => some (r.foldl min i)
theorem foldl_max : ∀ (r : List Int) (i : Int), (r.foldl max i = i ∨ r.foldl max i ∈ r) ∧ i ≤ r.foldl max i ∧ ∀ y ∈ r, y ≤ r.foldl max i
  | [], i => ⟨.inl rfl, by simp, fun _ h => nomatch h⟩
  | a :: r, i => by
    obtain ⟨h1, h2, h3⟩ := foldl_max r (max i a)
    rw [List.foldl_cons]
    refine ⟨?_, by omega, fun y hy => ?_⟩
    · rcases h1 with h1 | h1
      · rcases Int.le_total i a with h | h
        · right; rw [h1, Int.max_eq_right h]; exact List.mem_cons_self
        · left; rw [h1, Int.max_eq_left h]
      · exact .inr (List.mem_cons_of_mem _ h1)
    · rcases List.mem_cons.mp hy with rfl | hy
      · omega
      · exact h3 y hy
theorem foldl_min : ∀ (r : List Int) (i : Int), (r.foldl min i = i ∨ r.foldl min i ∈ r) ∧ r.foldl min i ≤ i ∧ ∀ y ∈ r, r.foldl min i ≤ y
  | [], i => ⟨.inl rfl, by simp, fun _ h => nomatch h⟩
  | a :: r, i => by
    obtain ⟨h1, h2, h3⟩ := foldl_min r (min i a)
    rw [List.foldl_cons]
    refine ⟨?_, by omega, fun y hy => ?_⟩
    · rcases h1 with h1 | h1
      · rcases Int.le_total i a with h | h
        · left; rw [h1, Int.min_eq_left h]
        · right; rw [h1, Int.min_eq_right h]; exact List.mem_cons_self
      · exact .inr (List.mem_cons_of_mem _ h1)
    · rcases List.mem_cons.mp hy with rfl | hy
      · omega
      · exact h3 y hy
theorem maxI_of {ns : List Int} {m : Int} (h1 : m ∈ ns) (h2 : ∀ y ∈ ns, y ≤ m) : maxI ns = some m := by
  cases ns with
  | nil => cases h1
  | cons i r =>
    obtain ⟨g1, g2, g3⟩ := foldl_max r i
    have a : m ≤ r.foldl max i := by
      rcases List.mem_cons.mp h1 with rfl | h
      · exact g2
      · exact g3 m h
    have b : r.foldl max i ≤ m := by
      rcases g1 with g | g
      · rw [g]; exact h2 i List.mem_cons_self
      · exact h2 _ (List.mem_cons_of_mem _ g)
    exact congrArg some (Int.le_antisymm b a)
theorem minI_of {ns : List Int} {m : Int} (h1 : m ∈ ns) (h2 : ∀ y ∈ ns, m ≤ y) : minI ns = some m := by
  cases ns with
  | nil => cases h1
  | cons i r =>
    obtain ⟨g1, g2, g3⟩ := foldl_min r i
    have a : r.foldl min i ≤ m := by
      rcases List.mem_cons.mp h1 with rfl | h
      · exact g2
      · exact g3 m h
    have b : m ≤ r.foldl min i := by
      rcases g1 with g | g
      · rw [g]; exact h2 i List.mem_cons_self
      · exact h2 _ (List.mem_cons_of_mem _ g)
    exact congrArg some (Int.le_antisymm a b)
def gMax : Sto → List D → Option D := fun S ds => match ds with
  | [d] => (match deref S d with
    | .lst xs => (asInts xs).bind fun ns => (maxI ns).map .int
    | _ => none)
  | [.int i, .int j] => some (.int (if j > i then j else i))
  | _ => none
def gMin : Sto → List D → Option D := fun S ds => match ds with
  | [d] => (match deref S d with
    | .lst xs => (asInts xs).bind fun ns => (minI ns).map .int
    | _ => none)
  | [.int i, .int j] => some (.int (if j < i then j else i))
  | _ => none
section
variable {X : Cx}
theorem b_max (hc : X.calm = true) : BiG X (.builtin "max") gMax := by
  refine ⟨_, (cr_max hc).or (call_max2 hc), fun α F H S xs ds z Q hr hv hz q => ?_⟩
  unfold gMax at hz
  split at hz
  · cases hv with
    | cons h1 h2 =>
      cases h2
      split at hz
      · rename_i ys e1
        obtain ⟨ns, e2, e3⟩ := Option.bind_eq_some_iff.mp hz
        obtain ⟨m, e4, rfl⟩ := Option.map_eq_some_iff.mp e3
        obtain ⟨l, us, rfl, a1, a2⟩ := hr.viewL h1 e1
        have := asInts_eq e2
        subst this
        have := DVs.ints a2
        subst this
        refine .inl ⟨l, ns, rfl, a1, ?_, fun m' g1 g2 => ?_⟩
        · cases ns with
          | nil => cases e4
          | cons _ _ => exact Nat.succ_pos _
        · rw [maxI_of g1 g2] at e4
          cases e4
          exact fin_now hr (.int _) q
      · cases hz
  · cases hz
    cases hv with
    | cons h1 h2 => cases h2 with
      | cons h2 h3 => cases h1; cases h2; cases h3; exact .inr ⟨_, _, rfl, fin_now hr (.int _) q⟩
  · cases hz
theorem b_min (hc : X.calm = true) : BiG X (.builtin "min") gMin := by
  refine ⟨_, (cr_min hc).or (call_min2 hc), fun α F H S xs ds z Q hr hv hz q => ?_⟩
  unfold gMin at hz
  split at hz
  · cases hv with
    | cons h1 h2 =>
      cases h2
      split at hz
      · rename_i ys e1
        obtain ⟨ns, e2, e3⟩ := Option.bind_eq_some_iff.mp hz
        obtain ⟨m, e4, rfl⟩ := Option.map_eq_some_iff.mp e3
        obtain ⟨l, us, rfl, a1, a2⟩ := hr.viewL h1 e1
        have := asInts_eq e2
        subst this
        have := DVs.ints a2
        subst this
        refine .inl ⟨l, ns, rfl, a1, ?_, fun m' g1 g2 => ?_⟩
        · cases ns with
          | nil => cases e4
          | cons _ _ => exact Nat.succ_pos _
        · rw [minI_of g1 g2] at e4
          cases e4
          exact fin_now hr (.int _) q
      · cases hz
  · cases hz
    cases hv with
    | cons h1 h2 => cases h2 with
      | cons h2 h3 => cases h1; cases h2; cases h3; exact .inr ⟨_, _, rfl, fin_now hr (.int _) q⟩
  · cases hz
end
end DL

set_option Elab.async false
set_option linter.all false
set_option maxRecDepth 100000
set_option maxHeartbeats 4000000
set_option autoImplicit false
/-! Data layer: dict() of pairs. -/
namespace DL
open PySem PySem.Spec PyProof.Rows L2

/-! ### by values -/
/-- tuples of two -/
def PairsV (K : Fg) (H : Hp) : List V → List (V × V) → Prop := Paired fun u pr => ∃ p, u = .ref p ∧ SqT K H p [pr.1, pr.2]
def mergeV (xs more : List (NestedKey × Addr × V)) : List (NestedKey × Addr × V) := more.foldl (fun acc x => putV acc x.1 x.2.1 x.2.2) xs
theorem NV.merge : ∀ {ys : List (NestedKey × Addr × V)} {ws : List (NestedKey × Addr × Value)}, NV ys ws → ∀ {xs : List (NestedKey × Addr × V)} {vs : List (NestedKey × Addr × Value)}, NV xs vs → NV (mergeV xs ys) (storedAllH vs ws) := by
  intro ys ws h
  unfold NV at h
  induction h with
  | nil => exact fun g => g
  | @cons a b l₁ l₂ r t ih =>
    intro xs vs g
    show NV (mergeV (putV xs a.1 a.2.1 a.2.2) l₁) (storedAllH (storedH vs b.1 b.2.1 b.2.2) l₂)
    have := g.put a.1 a.2.1 r.2.2
    rw [← r.1, ← r.2.1]
    exact ih this
theorem mergeV_length (ys : List (NestedKey × Addr × V)) : ∀ xs : List (NestedKey × Addr × V), (mergeV xs ys).length ≤ xs.length + ys.length := by
  induction ys with
  | nil => intro xs; exact Nat.le_refl _
  | cons y ys ih =>
    intro xs
    have := ih (putV xs y.1 y.2.1 y.2.2)
    have := putV_length xs y.1 y.2.1 y.2.2
    rw [List.length_cons]
    show (mergeV (putV xs y.1 y.2.1 y.2.2) ys).length ≤ _
    omega
section
variable {X : Cx} {pins : List (Addr × Obj)} {σ : L2.St} {H : Hp} {s : Shared}
theorem pairs_vals (I : Inv X pins σ H s) : ∀ {us : List V} {prs : List (V × V)} {vs : List Value}, PairsV X.K H us prs → Vals us vs →
    ∃ (Ts : List Addr) (ps : List (Value × Value)), vs = Ts.map Value.ref ∧ Ts.length = ps.length ∧ Paired (fun a b => RelV a.1 b.1 ∧ RelV a.2 b.2) prs ps ∧ ∀ (j : Nat) (k v : Value), ps[j]? = some (k, v) → ∃ t, Ts[j]? = some t ∧ IsTup s.heap t #[k, v]
  | _, _, _, .nil, r => by cases r; exact ⟨[], [], rfl, rfl, .nil, fun j k v e => by simp at e⟩
  | _, _, _, .cons (a := u) (b := pr) h t, r => by
    cases r with
    | @cons _ w _ vs r1 r2 =>
      obtain ⟨p, rfl, hp⟩ := h
      obtain rfl : w = Value.ref p := r1
      obtain ⟨Ts, ps, e1, e2, e3, e4⟩ := pairs_vals I t r2
      obtain ⟨its, rv, ht, _⟩ := I.tuple hp
      obtain ⟨k, v, ei, rk, rv'⟩ := vals2 rv
      subst ei
      refine ⟨p :: Ts, (k, v) :: ps, by rw [e1]; rfl, by rw [List.length_cons, List.length_cons, e2], .cons ⟨rk, rv'⟩ e3, fun j k' v' e => ?_⟩
      cases j with
      | zero => simp at e; obtain ⟨rfl, rfl⟩ := e; exact ⟨p, rfl, ht⟩
      | succ j => simp at e; obtain ⟨t', h1, h2⟩ := e4 j k' v' e; exact ⟨t', by simpa using h1, h2⟩
/-- what may be handed to dict() -/
def DArg (K : Fg) (H : Hp) (a : Addr) (us : List V) : Prop := SqL K H a us ∨ PlT K H a us
theorem darg_at (I : Inv X pins σ H s) {a : Addr} {us : List V} (h : DArg X.K H a us) : ∃ (T : String) (its : List Value), (T = "list" ∨ T = "tuple") ∧ Vals us its ∧ us.length ≤ sizeLine ∧ PlainSeq T s.heap a its.toArray := by
  rcases h with h | ⟨h, q⟩
  · obtain ⟨its, rv, ⟨o, n, ho, hc, hd, hdat⟩, hz⟩ := I.list h
    exact ⟨"list", its, .inl rfl, rv, hz, o, n, ho, hc, hd, hdat⟩
  · obtain ⟨its, rv, ⟨o, ho, hc, n, hdat⟩, hz⟩ := I.tuple h
    refine ⟨"tuple", its, .inr rfl, rv, hz, o, n, ho, hc, ?_, hdat⟩
    rcases q with ⟨o', e, hd⟩ | ⟨o', e, hd⟩
    · obtain ⟨e', _⟩ := I.hok a _ e
      rw [ho] at e'; cases e'; exact hd
    · rw [I.kIn _ _ e] at ho; cases ho; exact hd
theorem pairItems_of {Ts : List Addr} {ps : List (Value × Value)} (hl : Ts.length = ps.length) (h : ∀ (j : Nat) (k v : Value), ps[j]? = some (k, v) → ∃ t, Ts[j]? = some t ∧ IsTup s.heap t #[k, v]) : PairItems s.heap (Ts.map Value.ref).toArray (fun j => Ts.getD j 0) ps := by
  refine ⟨by simp [hl], fun j k v e => ?_⟩
  obtain ⟨t, h1, h2⟩ := h j k v e
  have e2 : Ts.getD j 0 = t := by rw [List.getD_eq_getElem?_getD, h1]; rfl
  dsimp only
  rw [e2]
  exact ⟨by simp [h1], .inl h2⟩
theorem dict_arg {T : String} {a : Addr} {Ts : List Addr} {ps : List (Value × Value)} (hT : T = "list" ∨ T = "tuple") :
    PairArg X.prog X.w T a (a :: (List.range ps.length).map fun j => Ts.getD j 0) [] ps.length (PairRel ps) (fun h => PlainSeq T h a (Ts.map Value.ref).toArray ∧ PairItems h (Ts.map Value.ref).toArray (fun j => Ts.getD j 0) ps) := by
  rcases hT with rfl | rfl
  · exact PairArg.list a _ _ ps
  · exact PairArg.tuple a _ _ ps
end
section
variable {X : Cx}
/-- dict(pairs), keys ints and texts -/
theorem cr_dictK (hc : X.calm = true) : CallR X (.type "dict") (fun xs H Q => ∃ (a : Addr) (us : List V) (kvs : List (Key × V)), xs = [.ref a] ∧ DArg X.K H a us ∧ PairsV X.K H us (kvs.map fun p => (kV p.1, p.2)) ∧ ∀ p, H p = none → Q (.ref p) (upd H p (.dK (mergeK [] kvs)))) := by
  intro pins s σ H xs vs Q I r q
  obtain ⟨a, us, kvs, rfl, ha, hp, q⟩ := q
  rw [Vals.ref1 r]
  obtain ⟨T, its, hT, rv, hz, pl⟩ := darg_at I ha
  obtain ⟨Ts, ps, rfl, hl, rel, hat⟩ := pairs_vals I hp rv
  obtain ⟨kvs', rel', hk'⟩ : ∃ kvs' : List (Key × Value), KV kvs kvs' ∧ ∀ (i : Nat) (key v : Value), ps[i]? = some (key, v) → ∃ k, kvs'[i]? = some (k, v) ∧ (mixKind X.prog X.w).is k key = true := by
    clear hat hl pl hp q rv
    generalize e : kvs.map (fun p => (kV p.1, p.2)) = prs at rel
    induction rel generalizing kvs with
    | nil =>
      cases kvs with
      | nil => exact ⟨[], .nil, fun i k v e => by simp at e⟩
      | cons _ _ => cases e
    | @cons pr p l₁ l₂ h t ih =>
      cases kvs with
      | nil => cases e
      | cons kv kvs =>
        cases e
        obtain ⟨kvs', h1, h2⟩ := ih kvs rfl
        refine ⟨(kv.1, p.2) :: kvs', .cons ⟨rfl, h.2⟩ h1, fun i key v e => ?_⟩
        cases i with
        | zero => simp at e; subst e; exact ⟨kv.1, rfl, kV_is h.1⟩
        | succ i => simp at e; obtain ⟨k, e1, e2⟩ := h2 i key v e; exact ⟨k, by simpa using e1, e2⟩
  have hlen : kvs'.length = ps.length := by
    have h1 := Paired.length rel'
    have h2 := Paired.length rel
    rw [List.length_map] at h2
    omega
  have hzp : ps.length ≤ sizeLine := by
    have := rv.length
    rw [List.length_map] at this
    omega
  refine PySem.call_dict_pairs (knd := mixKind X.prog X.w) (kvs := kvs') (dict_arg (X := X) (a := a) (Ts := Ts) (ps := ps) hT) (I.ok.hd hc) ⟨pl, pairItems_of hl hat⟩ ⟨hlen, hk'⟩ hzp fun h' tk hd' k => ?_
  have hm : (s.heap.objs.size == sysModules) = false := beq_eq_false_iff_ne.mpr (Nat.ne_of_gt I.big)
  have hl2 : (mergeK [] kvs).length ≤ sizeLine := by
    refine Nat.le_trans (length_mergeK kvs []) ?_
    have := Paired.length rel'
    rw [List.length_nil, Nat.zero_add]
    omega
  exact ⟨.ref s.heap.objs.size, upd H s.heap.objs.size (.dK (mergeK [] kvs)), I.laid (t' := tk) (fun b o e => k b o (by simp) e) (Nat.le_refl _) (show ObjOk X.prog X.w _ _ _ (.dK (mergeK [] kvs)) from ⟨hl2, hm, merged [] kvs', KV.merge rel' .nil, hd'⟩), rfl, q _ (I.hok.fresh (Nat.le_refl _))⟩
/-- dict(pairs), keys tuples -/
theorem cr_dictN (hc : X.calm = true) (hu : X.A.units + 12 < cLine) : CallR X (.type "dict") (fun vs H Q => ∃ (a : Addr) (us : List V) (xs : List (NestedKey × Addr × V)), vs = [.ref a] ∧ DArg X.K H a us ∧ NKeys X.K H xs ∧ PairsV X.K H us (xs.map fun x => (.ref x.2.1, x.2.2)) ∧ ∀ p, H p = none → Q (.ref p) (upd H p (dN X.w p (mergeV [] xs)))) := by
  intro pins s σ H vs0 vs Q I r q
  obtain ⟨a, us, xs, rfl, ha, hk, hp, q⟩ := q
  rw [Vals.ref1 r]
  obtain ⟨T, its, hT, rv, hz, pl⟩ := darg_at I ha
  obtain ⟨Ts, ps, rfl, hl, rel, hat⟩ := pairs_vals I hp rv
  obtain ⟨ys, rel', hk'⟩ : ∃ ys : List (NestedKey × Addr × Value), NV xs ys ∧ ∀ (i : Nat) (key v : Value), ps[i]? = some (key, v) → ∃ k b, ys[i]? = some (k, b, v) ∧ key = .ref b := by
    clear hat hl pl hp q rv hk
    generalize e : xs.map (fun x => (V.ref x.2.1, x.2.2)) = prs at rel
    induction rel generalizing xs with
    | nil =>
      cases xs with
      | nil => exact ⟨[], .nil, fun i k v e => by simp at e⟩
      | cons _ _ => cases e
    | @cons pr p l₁ l₂ h t ih =>
      cases xs with
      | nil => cases e
      | cons x xs =>
        cases e
        obtain ⟨ys, h1, h2⟩ := ih xs rfl
        refine ⟨(x.1, x.2.1, p.2) :: ys, .cons ⟨rfl, rfl, h.2⟩ h1, fun i key v e => ?_⟩
        cases i with
        | zero => simp at e; subst e; exact ⟨x.1, x.2.1, rfl, h.1⟩
        | succ i => simp at e; obtain ⟨k, b, e1, e2⟩ := h2 i key v e; exact ⟨k, b, by simpa using e1, e2⟩
  have hlen : ys.length = ps.length := by
    have h1 := rel'.length
    have h2 := Paired.length rel
    rw [List.length_map] at h2
    omega
  have hzp : ps.length ≤ sizeLine := by
    have := rv.length
    rw [List.length_map] at this
    omega
  have hst : KeysStay (nestedKind X.prog X.w) s.heap s.heap.objs.size [] ys := by
    intro h' kp x hx
    obtain ⟨i, hi⟩ := List.mem_iff_getElem?.mp hx
    obtain ⟨y, hy⟩ : ∃ y, xs[i]? = some y := ⟨_, List.getElem?_eq_getElem (by rw [rel'.length]; exact (List.getElem?_eq_some_iff.mp hi).1)⟩
    obtain ⟨z, hz, q1, q2, _⟩ := paired_get rel' hy
    rw [hi] at hz
    cases hz
    obtain ⟨k1, k2⟩ := hk y (List.mem_of_getElem? hy)
    rw [← q1, ← q2]
    exact ⟨NestedIs.at (fun b o vs n hb _ => kp b o (Nat.ne_of_lt (Heap.lt_size hb)) (by simp) hb) _ _ (NK.is I k1 rfl), k2⟩
  refine PySem.call_dict_pairsH (knd := nestedKind X.prog X.w) (ps := ys) (dict_arg (X := X) (a := a) (Ts := Ts) (ps := ps) hT) (I.ok.hd hc) (show X.A.units + 1 + 1 + 8 < cLine by omega) ⟨pl, pairItems_of hl hat⟩ ⟨hlen, hk'⟩ hst hzp fun h' tk hd' k => ?_
  have hm : (s.heap.objs.size == sysModules) = false := beq_eq_false_iff_ne.mpr (Nat.ne_of_gt I.big)
  have hl2 : (mergeV [] xs).length ≤ sizeLine := by
    have h1 := mergeV_length xs []
    have h2 := rel'.length
    rw [List.length_nil] at h1
    omega
  have rm := NV.merge rel' (xs := []) (vs := []) .nil
  obtain ⟨o, es, ep, g1, g2, g3, g4, _, g5⟩ := hd'
  have new : ObjOk X.prog X.w (upd H s.heap.objs.size (dN X.w s.heap.objs.size (mergeV [] xs))) h' s.heap.objs.size (dN X.w s.heap.objs.size (mergeV [] xs)) :=
    ⟨⟨hm, hl2, by rw [rm.keys]; exact g5, _, rm, o, es, ep, g1, g2, g3, g4⟩, ⟨o, g1⟩, fun z1 z2 ⟨p1, p2, p3, vs', p4, o', es', ep', p5, p6⟩ st => ⟨p1, p2, p3, vs', p4, o', es', ep', st _ p5, p6⟩⟩
  exact ⟨.ref s.heap.objs.size, _, I.laid (t' := tk) (fun b o e => k b o (by simp) e) (Nat.le_refl _) new, rfl, q _ (I.hok.fresh (Nat.le_refl _))⟩
end
/-! ### by data -/
def pairOf : D → Option (D × D)
  | .tup [k, v] => some (k, v)
  | _ => none
def pairsOf : List D → Option (List (D × D))
  | [] => some []
  | d :: r => match pairOf d, pairsOf r with
    | some p, some ps => some (p :: ps)
    | _, _ => none
def dictOf (kvs : List (D × D)) : Option D := if kvs.all (fun p => isKey p.1) then some (.dct (mergeD [] kvs)) else if kvs.all (fun p => isKeyN p.1) then some (.dcn (mergeN [] kvs)) else none
def gDict : Sto → List D → Option D := fun S ds => match ds with
  | [d] => (match deref S d with
    | .lst xs => (pairsOf xs).bind dictOf
    | .tup xs => (pairsOf xs).bind dictOf
    | .dct kvs => some (.dct kvs)
    | _ => none)
  | _ => none
section
variable {wd : World} {K : Fg} {mg : Str → Option Value} {α β : List Addr} {F F1 H H1 : Hp} {S : Sto}
/-- the pairs, by values -/
theorem pairs_see (s : Sub F H) : ∀ {us : List V} {ds : List D} {kvs : List (D × D)}, DVs wd K mg F α us ds → pairsOf ds = some kvs → ∃ prs : List (V × V), PairsV K H us prs ∧ DVs wd K mg F α (prs.map (·.1)) (kvs.map (·.1)) ∧ DVs wd K mg F α (prs.map (·.2)) (kvs.map (·.2))
  | _, [], kvs, h, e => by
    unfold pairsOf at e
    cases e
    cases h
    exact ⟨[], .nil, .nil, .nil⟩
  | _, d :: ds, kvs, h, e => by
    unfold pairsOf at e
    split at e
    · rename_i p ps e1 e2
      cases e
      cases h with
      | cons h1 h2 =>
        obtain ⟨prs, g1, g2, g3⟩ := pairs_see s h2 e2
        unfold pairOf at e1
        split at e1
        · cases e1
          cases h1 with
          | tup q t =>
            cases t with
            | cons t1 t2 => cases t2 with
              | cons t2 t3 =>
                cases t3
                exact ⟨(_, _) :: prs, .cons ⟨_, rfl, s.sqT q.1⟩ g1, .cons t1 g2, .cons t2 g3⟩
        · cases e1
    · cases e
theorem nkeysOf (s : Sub F H) : ∀ {kvs : List (D × D)} {prs : List (V × V)}, kvs.all (fun p => isKeyN p.1) = true → DVs wd K mg F α (prs.map (·.1)) (kvs.map (·.1)) → DVs wd K mg F α (prs.map (·.2)) (kvs.map (·.2)) →
    ∃ xs : List (NestedKey × Addr × V), prs = xs.map (fun x => (.ref x.2.1, x.2.2)) ∧ NVs wd K mg F α xs kvs
  | [], [], _, _, _ => ⟨[], rfl, .nil⟩
  | [], _ :: _, _, h, _ => by have := h.length; simp at this
  | _ :: _, [], _, h, _ => by have := h.length; simp at this
  | (q, d) :: kvs, (x, y) :: ps, hk, h, g => by
    rw [List.all_cons, Bool.and_eq_true] at hk
    have h' : DVs wd K mg F α (x :: ps.map (·.1)) (q :: kvs.map (·.1)) := h
    have g' : DVs wd K mg F α (y :: ps.map (·.2)) (d :: kvs.map (·.2)) := g
    cases h' with
    | cons h1 h2 =>
      cases g' with
      | cons g1 g2 =>
        obtain ⟨xs, e1, e2⟩ := nkeysOf s hk.2 h2 g2
        obtain ⟨ds, nk, eq, k1, k2⟩ := isKeyN_ex hk.1
        have eq : q = .tup ds := eq
        subst eq
        obtain ⟨b, rfl⟩ := DV.isRef h1
        exact ⟨(nk, b, y) :: xs, by rw [e1]; rfl, .cons k1 k2 h1 ⟨_, rfl⟩ g1 e2⟩
theorem NVs.merge {more : List (NestedKey × Addr × V)} {mk : List (D × D)} (g : NVs wd K mg F α more mk) : ∀ {xs : List (NestedKey × Addr × V)} {kvs : List (D × D)}, NVs wd K mg F α xs kvs → NVs wd K mg F α (mergeV xs more) (mergeN kvs mk) := by
  induction g with
  | nil => exact fun h => h
  | cons h1 h2 h3 h4 h5 _ ih => exact fun h => ih (h.put h1 h2 h3 h4 h5)
theorem all_keys_map {ws : List (Key × V)} : (ws.map fun kv => (kV kv.1, kv.2)) = ws.map (fun p => (kV p.1, p.2)) := rfl
end
section
variable {X : Cx} {W : WX} {a b c e tg : Expr} {es rest : List Expr} {ra rb rc : RE} {rs : RA} {pos p : Pos}
/-- a thing that a class makes -/
theorem pf_callTG {x : Str} {T : String} {g : Sto → List D → Option D} {r : List V → Hp → VK → Prop} (hc : CallR X (.type T) r) (hgk : ∀ α F H S xs ds z Q, Rel X.w X.K X.mg α F H S → DVs X.w X.K X.mg F α xs ds → g S ds = some z → z.open = true ∧ ((∀ p o, H p = none → Own X.w X.K X.mg F α (upd H p o) p z → Q (.ref p) (upd H p o)) → r xs H Q))
    (hm : X.mg x = none) (ha : PDs X W (e :: es) rs) (hg : Gl X x := by rfl) (hv : bootBuiltins x = some (.type T) := by decide +kernel) (hn : x ≠ "__name__" := by decide) (hdb : (x == ("__debug__" : Str)) = false := by decide)
    (he : starEach (e :: es) X.env = (false, eval e X.env) :: starEach es X.env := by rfl) (hpl : (backTo pos (starEach es X.env)).any (·.1) = false := by rfl) : PF X W (.Call (.Name x p) (e :: es) [] pos) (rAs g rs) := by
  obtain ⟨t, pt, st⟩ := ha.ex
  refine ⟨_, pe_callTy hc hg hm hv pt hn hdb he hpl, fun α F σ H δ S Q hr hs h => ?_⟩
  refine st α F σ H δ S _ hr hs (wpF.bind h fun ds S1 _ xs H1 β F1 r1 q1 v1 h1 => ?_)
  cases eg : g S1 ds with
  | none => rw [eg] at h1; exact h1.elim
  | some z =>
    rw [eg] at h1
    obtain ⟨e1, e2⟩ := hgk _ F1 H1 S1 xs ds z Q r1 v1 eg
    exact e2 fun p o hp ho => wpF.lay h1 r1 hp ho e1
theorem dictOf_see {α : List Addr} {F H : Hp} {S : Sto} {us : List V} {ds : List D} {z : D} {Q : VK} {a : Addr} (hr : Rel X.w X.K X.mg α F H S) (hv : DVs X.w X.K X.mg F α us ds) (e : (pairsOf ds).bind dictOf = some z) (ha : DArg X.K H a us) :
    z.open = true ∧ ((∀ p o, H p = none → Own X.w X.K X.mg F α (upd H p o) p z → Q (.ref p) (upd H p o)) →
      (∃ (a' : Addr) (us : List V) (kvs : List (Key × V)), [V.ref a] = [.ref a'] ∧ DArg X.K H a' us ∧ PairsV X.K H us (kvs.map fun p => (kV p.1, p.2)) ∧ ∀ p, H p = none → Q (.ref p) (upd H p (.dK (mergeK [] kvs)))) ∨
      ∃ (a' : Addr) (us : List V) (xs : List (NestedKey × Addr × V)), [V.ref a] = [.ref a'] ∧ DArg X.K H a' us ∧ NKeys X.K H xs ∧ PairsV X.K H us (xs.map fun x => (.ref x.2.1, x.2.2)) ∧ ∀ p, H p = none → Q (.ref p) (upd H p (dN X.w p (mergeV [] xs)))) := by
  obtain ⟨kvs, e1, e2⟩ := Option.bind_eq_some_iff.mp e
  obtain ⟨prs, g1, g2, g3⟩ := pairs_see hr.sub hv e1
  unfold dictOf at e2
  split at e2
  · rename_i hk
    cases e2
    obtain ⟨ws, k1, k2⟩ := keysOf hk g2 g3
    refine ⟨rfl, fun q => .inl ⟨a, us, ws, rfl, ha, by rw [k1] at g1; exact g1, fun p hp => q p _ hp (Own.dctK.mpr ⟨_, upd_same, KVs.merge k2 .nil⟩)⟩⟩
  · split at e2
    · rename_i hk
      cases e2
      obtain ⟨xs, k1, k2⟩ := nkeysOf hr.sub hk g2 g3
      exact ⟨rfl, fun q => .inr ⟨a, us, xs, rfl, ha, k2.keys hr.sub, by rw [k1] at g1; exact g1, fun p hp => q p _ hp ⟨_, upd_same, k2.merge .nil⟩⟩⟩
    · cases e2
theorem pf_dict (hc : X.calm = true) (hu : X.A.units + 12 < cLine) (hm : X.mg "dict" = none) (ha : PDs X W (e :: es) rs) (hg : Gl X "dict" := by rfl) (he : starEach (e :: es) X.env = (false, eval e X.env) :: starEach es X.env := by rfl) (hpl : (backTo pos (starEach es X.env)).any (·.1) = false := by rfl) :
    PF X W (.Call (.Name "dict" p) (e :: es) [] pos) (rAs gDict rs) := pf_callTG (((cr_dictK hc).or (cr_dictN hc hu)).or call_dictD) (fun α F H S xs ds z Q hr hv hz => by
  unfold gDict at hz
  split at hz
  · cases hv with
    | cons h1 h2 =>
      cases h2
      split at hz
      · rename_i ys e1
        obtain ⟨l, us, rfl, a1, a2⟩ := hr.viewL h1 e1
        obtain ⟨g1, g2⟩ := dictOf_see (Q := Q) hr a2 hz (.inl a1)
        exact ⟨g1, fun q => .inl (g2 q)⟩
      · rename_i ys e1
        have s := hr.see h1
        rw [e1] at s
        cases s with
        | «at» h _ =>
          cases h with
          | tup q t =>
            obtain ⟨g1, g2⟩ := dictOf_see (Q := Q) hr t hz (.inr (hr.sub.plT q))
            exact ⟨g1, fun q => .inl (g2 q)⟩
      · rename_i kvs e1
        cases hz
        obtain ⟨l, ws, rfl, a1, a2⟩ := hr.viewD h1 e1
        exact ⟨rfl, fun q => .inr ⟨l, ws, rfl, a1, fun p hp => q p _ hp (Own.dctK.mpr ⟨_, upd_same, a2⟩)⟩⟩
      · cases hz
  · cases hz) hm ha hg (by decide +kernel) (by decide) (by decide) he hpl
end
end DL

set_option Elab.async false
set_option linter.all false
set_option maxRecDepth 100000
set_option maxHeartbeats 4000000
set_option autoImplicit false
/-! Data layer: sorted(d.items()). -/
namespace DL
open PySem PySem.Spec PyProof.Rows L2

/-- tuples that are laid, one after the other, for good -/
inductive Grow : Hp → List Addr → List (V × V) → Hp → Prop
  | nil {H : Hp} : Grow H [] [] H
  | cons {H H2 : Hp} {T : Addr} {Ts : List Addr} {p : V × V} {ps : List (V × V)} {o : Obj} : H T = none → o.dict = none → Grow (upd H T (.frz o (.tup [p.1, p.2]))) Ts ps H2 → Grow H (T :: Ts) (p :: ps) H2
theorem Grow.keeps {H H2 : Hp} {Ts : List Addr} {ps : List (V × V)} (g : Grow H Ts ps H2) : ∀ {b : Addr} {o : HO}, H b = some o → H2 b = some o := by
  induction g with
  | nil => exact fun e => e
  | cons h _ _ ih => exact fun e => ih (upd_some h e)
section
open PySem.W
variable {X : Cx} {pins : List (Addr × Obj)} {σ : L2.St} {H H0 H1 : Hp} {s : Shared} {h' : Heap} {tk : Nat}
theorem takeG (I0 : Inv X pins σ H0 s) : ∀ (as : List Addr) (ps : List (V × V)) (H1 : Hp), Inv X pins σ H1 { s with heap := h', toks := tk } → as.Nodup →
    EachIs (fun a (p : V × V) => s.heap.objs.size ≤ a ∧ ∃ o : Obj, o.dict = none ∧ ∀ H2, ObjOk X.prog X.w H2 h' a (.frz o (.tup [p.1, p.2]))) as ps → (∀ a ∈ as, H1 a = none) →
    ∃ H2, Inv X pins σ H2 { s with heap := h', toks := tk } ∧ Grow H1 as ps H2 ∧ ∀ b, b ∉ as → H2 b = H1 b
  | _, _, H1, I1, _, .nil, _ => ⟨H1, I1, .nil, fun _ _ => rfl⟩
  | a :: as, p :: ps, H1, I1, hn, .cons h t, hf => by
    obtain ⟨hb, o, ho, ok⟩ := h
    have hnone := hf a List.mem_cons_self
    have I2 : Inv X pins σ (upd H1 a (.frz o (.tup [p.1, p.2]))) { s with heap := h', toks := tk } := I1.take (h' := h') (t' := tk) (fun b ob _ e => e) (I0.fpOk hb hnone) (ok _)
    rw [List.nodup_cons] at hn
    obtain ⟨H2, I3, g, q⟩ := takeG I0 as ps _ I2 hn.2 t fun c hc => by
      rw [upd_ne (fun z => hn.1 (by rw [← z]; exact hc))]
      exact hf c (List.mem_cons_of_mem _ hc)
    refine ⟨H2, I3, .cons hnone ho g, fun b hb => ?_⟩
    rw [List.mem_cons, not_or] at hb
    rw [q b hb.2, upd_ne hb.1]
end
/-- the pairs of the dict at a -/
def ItSrc (w : World) (H : Hp) (a : Addr) (prs : List (V × V)) : Prop :=
  (∃ ws : List (Key × V), Rd H a (.dK ws) ∧ prs = ws.map fun p => (kV p.1, p.2)) ∨ ∃ xs, Rd H a (dN w a xs) ∧ prs = xs.map fun x => (.ref x.2.1, x.2.2)
section
open PySem.W
variable {X : Cx} {pins : List (Addr × Obj)} {σ : L2.St} {H : Hp} {s : Shared} {a : Addr} {prs : List (V × V)}
theorem pairs_rel {P : Program} {w : World} : ∀ {es : List DictEntry} {vs : List (Key × Value)} {ws : List (Key × V)}, PySem.Pairs (mixKind P w) es vs → KV ws vs → EachIs (fun (e : DictEntry) (p : V × V) => RelV p.1 e.key ∧ RelV p.2 e.val) es (ws.map fun p => (kV p.1, p.2))
  | _, _, _, .nil, h => by cases h; exact .nil
  | _, _, _, .cons h1 h2 t, h => by
    cases h with
    | cons g gt => exact .cons ⟨by show RelV (kV _) _; rw [g.1]; exact relV_key h1, by rw [h2]; exact g.2⟩ (pairs_rel t gt)
theorem nv_rel {w : World} : ∀ {xs : List (NestedKey × Addr × V)} {vs : List (NestedKey × Addr × Value)}, NV xs vs → EachIs (fun (e : DictEntry) (p : V × V) => RelV p.1 e.key ∧ RelV p.2 e.val) (vs.map fun x => (⟨x.1.hash w, .ref x.2.1, x.2.2⟩ : DictEntry)) (xs.map fun x => (.ref x.2.1, x.2.2))
  | _, _, .nil => .nil
  | _, _, .cons h t => .cons ⟨by show Value.ref _ = Value.ref _; rw [h.2.1], h.2.2⟩ (nv_rel t)
theorem itsrc_at (I : Inv X pins σ H s) (h : ItSrc X.w H a prs) : (a == sysModules) = false ∧ prs.length ≤ sizeLine ∧ ∃ (es : Array DictEntry) (ep : Nat), DT.Raw s.heap a es ep ∧ EachIs (fun (e : DictEntry) (p : V × V) => RelV p.1 e.key ∧ RelV p.2 e.val) es.toList prs := by
  rcases h with ⟨ws, e, rfl⟩ | ⟨xs, e, rfl⟩
  · obtain ⟨z, hs, vs, kv, o, es, ep, ho, hx, hdt, r⟩ := (show ObjOk X.prog X.w H s.heap a (.dK ws) from e.ok I.hok)
    exact ⟨hs, by rw [List.length_map]; exact z, es, ep, ⟨o, ho, hx, hdt⟩, pairs_rel r.2.1 kv⟩
  · obtain ⟨⟨h1, h2, h3, vs, h4, o, es, ep, h5, h6, h7, h8⟩, _⟩ := (show ObjOk X.prog X.w H s.heap a (dN X.w a xs) from e.ok I.hok)
    exact ⟨h1, by rw [List.length_map]; exact h2, es, ep, ⟨o, h5, h6, h7⟩, by rw [h8]; exact nv_rel h4⟩
end
mutual
theorem reads_lt {h : Heap} : ∀ {v : Value} {d : PyData} {as : List Addr}, Reads h v d as → ∀ a ∈ as, a < h.objs.size
  | _, _, _, .none => fun _ z => nomatch z
  | _, _, _, .bool b => fun _ z => nomatch z
  | _, _, _, .int i t => fun _ z => nomatch z
  | _, _, _, .str x t => fun _ z => nomatch z
  | _, _, _, .list h1 h2 h3 h4 => fun a z => by
    rcases List.mem_cons.mp z with rfl | z
    · exact Heap.lt_size h1
    · exact readsAll_lt h4 a z
  | _, _, _, .tuple h1 h2 h3 h4 => fun a z => readsAll_lt h4 a z
  | _, _, _, .dict h1 h2 h3 h4 h5 => fun a z => by
    rcases List.mem_cons.mp z with rfl | z
    · exact Heap.lt_size h1
    · rcases List.mem_append.mp z with z | z
      · exact readsAll_lt h4 a z
      · exact readsAll_lt h5 a z
theorem readsAll_lt {h : Heap} : ∀ {vs : List Value} {ds : List PyData} {as : List Addr}, ReadsAll h vs ds as → ∀ a ∈ as, a < h.objs.size
  | _, _, _, .nil => fun _ z => nomatch z
  | _, _, _, .cons h1 h2 => fun a z => by
    rcases List.mem_append.mp z with z | z
    · exact reads_lt h1 a z
    · exact readsAll_lt h2 a z
end
/-- the pairs' data -/
inductive DpPs (K : Fg) (H : Hp) : List (V × V) → List PyData → Prop
  | nil : DpPs K H [] []
  | cons {p : V × V} {x y : PyData} {prs : List (V × V)} {ps : List PyData} : Dp K H p.1 x → Dp K H p.2 y → DpPs K H prs ps → DpPs K H (p :: prs) (.tuple [x, y] :: ps)
theorem DpPs.length {K : Fg} {H : Hp} {prs : List (V × V)} {ps : List PyData} (h : DpPs K H prs ps) : prs.length = ps.length := by
  induction h with
  | nil => rfl
  | cons _ _ _ ih => rw [List.length_cons, List.length_cons, ih]
def rSortIt (X : Cx) : List V → Hp → VK → Prop := fun vs H Q => ∃ (p a : Addr) (prs : List (V × V)) (ps : List PyData), vs = [.ref p] ∧ H p = some (L2.DX.itemsO p a) ∧ ItSrc X.w H a prs ∧ DpPs X.K H prs ps ∧ sortable ps = true ∧
  ∀ (Ts : List Addr) (H2 : Hp), Grow H Ts prs H2 → ∀ l, H2 l = none → H l = none → Q (.ref l) (upd H2 l (.lst (sortBy (Ts.map .ref) ps)))
def rItemsE (w : World) : V → List V → Hp → VK → Prop := fun x xs H Q => ∃ (a : Addr) (prs : List (V × V)), x = .ref a ∧ xs = [] ∧ ItSrc w H a prs ∧ ∀ p, H p = none → Q (.ref p) (upd H p (L2.DX.itemsO p a))
section
open PySem.W
variable {X : Cx} {W : WX} {o : Expr} {to : TE} {p : Pos} {apos cpos pos : Pos}
theorem each_get {A B : Type} {R : A → B → Prop} {as : List A} {bs : List B} (h : EachIs R as bs) : ∀ {i : Nat} {a : A}, as[i]? = some a → ∃ b, bs[i]? = some b ∧ R a b := by
  induction h with
  | nil => intro i a e; simp at e
  | cons r t ih =>
    intro i a' e
    cases i with
    | zero => simp at e; subst e; exact ⟨_, rfl, r⟩
    | succ j => simp at e; obtain ⟨b, h1, h2⟩ := ih e; exact ⟨b, by simpa using h1, h2⟩
theorem each_of {A B : Type} {R : A → B → Prop} : ∀ {as : List A} {bs : List B}, as.length = bs.length → (∀ (i : Nat) (a : A) (b : B), as[i]? = some a → bs[i]? = some b → R a b) → EachIs R as bs
  | [], [], _, _ => .nil
  | a :: as, b :: bs, hl, h => .cons (h 0 a b rfl rfl) (each_of (by simpa using hl) fun i x y e1 e2 => h (i + 1) x y (by simpa using e1) (by simpa using e2))
theorem each_len {A B : Type} {R : A → B → Prop} {as : List A} {bs : List B} (h : EachIs R as bs) : as.length = bs.length := by
  induction h with
  | nil => rfl
  | cons _ _ ih => rw [List.length_cons, List.length_cons, ih]
theorem dpps_get {K : Fg} {H : Hp} {prs : List (V × V)} {ps : List PyData} (h : DpPs K H prs ps) : ∀ {i : Nat} {q : V × V} {d : PyData}, prs[i]? = some q → ps[i]? = some d → ∃ x y, d = .tuple [x, y] ∧ Dp K H q.1 x ∧ Dp K H q.2 y := by
  induction h with
  | nil => intro i q d e; simp at e
  | cons h1 h2 _ ih =>
    intro i q d e1 e2
    cases i with
    | zero => simp at e1 e2; subst e1; subst e2; exact ⟨_, _, rfl, h1, h2⟩
    | succ j => simp at e1 e2; exact ih e1 e2
theorem reads2 {h : Heap} {a : Addr} {o : Obj} {u v : Value} {n : Nat} {x y : PyData} {as bs : List Addr} (ho : h.get? a = some o) (hc : o.cls = .type "tuple") (hd : o.data = .seq #[u, v] n) (h1 : Reads h u x as) (h2 : Reads h v y bs) : ∃ cs, Reads h (.ref a) (.tuple [x, y]) cs :=
  ⟨_, .tuple ho hc hd (.cons h1 (.cons h2 .nil))⟩
theorem sortable_ok {ps : List PyData} (h : sortable ps = true) : AllAlike ps ∧ Sortable ps ∧ ∀ d ∈ ps, d.depth ≤ 40 := by
  unfold sortable at h
  rw [Bool.and_eq_true, Bool.and_eq_true, Bool.or_eq_true] at h
  obtain ⟨k1, k2, k3⟩ := h
  refine ⟨fun d hd d' hd' => List.all_eq_true.mp (List.all_eq_true.mp k2 d hd) d' hd', ?_, fun d hd => of_decide_eq_true (List.all_eq_true.mp k3 d hd)⟩
  rcases k1 with k1 | k1
  · refine .inl fun d hd => ?_
    have := List.all_eq_true.mp k1 d hd
    match d, this with
    | .tuple (x :: r), _ => exact ⟨x, r, rfl⟩
  · refine .inr fun d hd => ?_
    have := List.all_eq_true.mp k1 d hd
    refine ⟨fun z => ?_, fun xs z => ?_⟩ <;> subst z <;> exact absurd this (by simp [noTup])
theorem cr_sortIt (hc : X.calm = true) (hu : X.A.units + 64 < cLine) : CallR X (.builtin "sorted") (rSortIt X) := by
  intro pins s σ H xs us Q I r h
  obtain ⟨p, a, prs, ps, rfl, hp, src, dp, so, q⟩ := h
  obtain rfl := Vals.ref1 r
  have view : s.heap.IsItemsView p a := (show ObjOk X.prog X.w H s.heap p (L2.DX.itemsO p a) from I.hok p _ hp).1
  obtain ⟨hd, hz, es, ep, raw, rel⟩ := itsrc_at I src
  have hes : es.size = prs.length := by rw [← Array.length_toList]; exact each_len rel
  refine DT.sortedI (es := es) (ep := ep) (I.ok.hd hc) view raw (by omega) fun h' tk as hk hlt hl hG => ?_
  have lak : as.length = prs.length := by omega
  have nd : as.Nodup := List.Pairwise.imp (fun h => Nat.ne_of_lt h) hG.rise
  have I1 : Inv X pins σ H { s with heap := h', toks := tk } := I.kept (t' := tk) hk
  have new : EachIs (fun a (p : V × V) => s.heap.objs.size ≤ a ∧ ∃ o : Obj, o.dict = none ∧ ∀ H2, ObjOk X.prog X.w H2 h' a (.frz o (.tup [p.1, p.2]))) as prs := each_of lak fun i b pr e1 e2 => by
    obtain ⟨e, h1, h2⟩ := hG.pairs i b e1
    refine ⟨Nat.le_of_lt (hG.above b (List.mem_of_getElem? e1)), _, rfl, fun H2 => ⟨h2, by show 2 ≤ sizeLine; decide, [e.key, e.val], ?_, _, h2, rfl, 0, rfl⟩⟩
    obtain ⟨pr', g1, g2, g3⟩ := each_get rel (i := i) (a := e) (by rw [Array.getElem?_toList]; exact h1)
    rw [e2] at g1
    cases g1
    exact .cons g2 (.cons g3 .nil)
  have fresh : ∀ b ∈ as, H b = none := fun b hb => I.hok.fresh (Nat.le_of_lt (hG.above b hb))
  obtain ⟨H2, I2, gr, oth⟩ := takeG I as prs H I1 nd new fresh
  have hob : (h'.push { cls := .type "list", data := .seq (as.map Value.ref).toArray }).get? h'.objs.size = some (seqObj "list" (as.map Value.ref).toArray 0) := Heap.get?_push_size _ rfl
  have ka : ∀ b o, h'.get? b = some o → (h'.push { cls := .type "list", data := .seq (as.map Value.ref).toArray }).get? b = some o := fun b o e => Heap.get?_push_of_some _ e
  generalize hh2 : h'.push { cls := .type "list", data := .seq (as.map Value.ref).toArray } = h2 at hob ka ⊢
  obtain ⟨hal, hso, hdp⟩ := sortable_ok so
  have lps : ps.length = as.length := by rw [lak, dp.length]
  have ml : ((as.map V.ref).zip ps).map (·.2) = ps := List.map_snd_zip (by rw [List.length_map, lps]; exact Nat.le_refl _)
  have e1 : EachIs (fun u (b : V × PyData) => RelV b.1 u) (as.map Value.ref) ((as.map V.ref).zip ps) := each_of (by rw [List.length_zip, List.length_map, List.length_map, lps, Nat.min_self]) fun i u b g1 g2 => by
    rw [List.getElem?_map] at g1
    obtain ⟨T, hT, rfl⟩ := Option.map_eq_some_iff.mp g1
    obtain ⟨g3, g4⟩ := List.getElem?_zip_eq_some.mp g2
    rw [List.getElem?_map, hT] at g3
    have g3' : V.ref T = b.1 := Option.some.inj g3
    show RelV b.1 (.ref T)
    rw [← g3']
    rfl
  have e2 : EachIs (fun u (b : V × PyData) => ∃ cs, Reads h2 u b.2 cs ∧ h'.objs.size ∉ cs) (as.map Value.ref) ((as.map V.ref).zip ps) := each_of (by rw [List.length_zip, List.length_map, List.length_map, lps, Nat.min_self]) fun i u b g1 g2 => by
    rw [List.getElem?_map] at g1
    obtain ⟨T, hT, rfl⟩ := Option.map_eq_some_iff.mp g1
    obtain ⟨g3, g4⟩ := List.getElem?_zip_eq_some.mp g2
    obtain ⟨e, h1, hTo⟩ := hG.pairs i T hT
    obtain ⟨pr', g5, g6, g7⟩ := each_get rel (i := i) (a := e) (by rw [Array.getElem?_toList]; exact h1)
    obtain ⟨x, y, g8, g9, g10⟩ := dpps_get dp g5 g4
    obtain ⟨as1, r1⟩ := Dp.reads I _ _ _ g9 g6
    obtain ⟨as2, r2⟩ := Dp.reads I _ _ _ g10 g7
    obtain ⟨cs, r3⟩ := reads2 hTo rfl rfl (PyProof.Rows.Reads.keeps hk r1) (PyProof.Rows.Reads.keeps hk r2)
    rw [g8]
    exact ⟨cs, PyProof.Rows.Reads.keeps ka r3, fun z => Nat.lt_irrefl _ (reads_lt r3 _ z)⟩
  have sl : ((as.map V.ref).zip ps).length = as.length := by rw [List.length_zip, List.length_map, lps, Nat.min_self]
  refine list_sort_data (s := { s with heap := h2, toks := tk }) (enc := fun b : V × PyData => b.2) hob e1 e2 (by rw [ml]; exact hal) (by rw [ml]; exact hso) (by rw [sl]; omega) (fun b hb => ?_) fun out o1 o2 => ?_
  · have := hdp b.2 (by rw [← ml]; exact List.mem_map.mpr ⟨b, hb, rfl⟩)
    show X.A.units + 1 + 1 + b.2.depth < cLine
    omega
  · show EP X pins σ Q (.ref h'.objs.size) { s with heap := sortedHeap h2 h'.objs.size (as.map Value.ref) (List.toArray out), toks := tk }
    have kF : ∀ b o, b ≠ h'.objs.size → h2.get? b = some o → (sortedHeap h2 h'.objs.size (as.map Value.ref) (List.toArray out)).get? b = some o := fun b o hb e => (PyProof.Rows.sortedHeap_old hb (Heap.lt_size e)).trans e
    have kS : ∀ b o, h'.get? b = some o → (sortedHeap h2 h'.objs.size (as.map Value.ref) (List.toArray out)).get? b = some o := fun b o e => kF b o (Nat.ne_of_lt (Heap.lt_size e)) (ka b o e)
    obtain ⟨eF, heF⟩ := PyProof.Rows.sortedHeap_at (vs := as.map Value.ref) (out := List.toArray out) hob
    have I3 : Inv X pins σ H2 { s with heap := sortedHeap h2 h'.objs.size (as.map Value.ref) (List.toArray out), toks := tk } := I2.kept (t' := tk) kS
    have hn0 : H h'.objs.size = none := I.hok.fresh (Nat.le_of_lt hlt)
    have hn : H2 h'.objs.size = none := by rw [oth _ (fun z => Nat.lt_irrefl _ (hG.there z))]; exact hn0
    have hv : Vals (sortBy (as.map V.ref) ps) out := each_vals (by
      have := each_map2 (R' := fun u v => RelV v u) (fun x => x) (fun b : V × PyData => b.1) (fun _ _ q => q) o2
      rw [List.map_id'] at this
      exact this)
    have hlen : (sortBy (as.map V.ref) ps).length ≤ sizeLine := by rw [sortBy_length (by rw [List.length_map, lps]), List.length_map]; omega
    exact ⟨.ref h'.objs.size, upd H2 h'.objs.size (.lst (sortBy (as.map V.ref) ps)), I3.take (h' := sortedHeap h2 h'.objs.size (as.map Value.ref) (List.toArray out)) (t' := tk) (fun b ob _ e => e) (I.fpOk (Nat.le_of_lt hlt) hn) ⟨hlen, out, eF, hv, heF⟩, rfl, q as H2 gr _ hn hn0⟩
theorem pe_itemsE (ho : PE X o to) (hbase : attributeBase o "items" X.env (eval o X.env) = eval o X.env := by rfl) (hline : (apos.endLine == cpos.line) = true := by rfl) :
    PE X (.Call (.Attribute o "items" apos) [] [] cpos) (fun σ H Q => to σ H fun x H1 => rItemsE X.w x [] H1 Q) := by
  refine ⟨fun pins s σ H Q I h => ?_⟩
  refine wpAny_Call_method (T := "dict") (id := "dict.items") hbase rfl hline PySem.F.plainAttrs_dict PySem.F.slot_dict_items PySem.F.type_dict_items (thn (ho.run pins s σ H _ I h) fun u s1 ⟨x, H1, I1, rx, a, prs, ex, _, src, q⟩ => ?_)
  subst ex
  obtain rfl : u = Value.ref a := rx
  obtain ⟨hd, _, es, ep, raw, _⟩ := itsrc_at I1 src
  refine ⟨raw.typeIs, fun b e => ?_, ?_⟩
  · cases e; obtain ⟨o, h1, h2, _⟩ := raw; exact ⟨o, h1, h2.2.1⟩
  · show wpAny _ _ (callWith cpos (.builtin "dict.items") [.ref a] [] []) _ X.xe s1
    refine Calls.callWith_builtin rfl (PySem.evalArgs_none (DT.callItems (es := es) (ep := ep) hd raw ?_))
    exact ⟨.ref s1.heap.objs.size, upd H1 s1.heap.objs.size (L2.DX.itemsO s1.heap.objs.size a), I1.laid (t' := s1.toks) (fun b u e => Heap.get?_push_of_some _ e) (Nat.le_refl _) (L2.DX.itemsO_ok (Heap.get?_push_size _ rfl)), rfl, q _ (I1.hok.fresh (Nat.le_refl _))⟩
end
/-! ### by data -/
/-- sorted(d.items()) -/
def itemsOf : D → Option (List D)
  | .dct kvs => some (kvs.map fun p => .tup [p.1, p.2])
  | .dcn kvs => some (kvs.map fun p => .tup [p.1, p.2])
  | _ => none
def rSortItems (a : RE) : RE := fun δ S => (a δ S).bind fun d S1 => .lift (((itemsOf (deref S1 d)).bind (sortD S1)).map .lst) S1
section
open PySem.W
variable {wd : World} {K : Fg} {mg : Str → Option Value} {α β : List Addr} {F F1 H H1 : Hp} {S : Sto}
theorem toPy_pair {x y : D} {r : PyData} (h : toPy S (.tup [x, y]) = some r) : ∃ p q, r = .tuple [p, q] ∧ toPy S x = some p ∧ toPy S y = some q := by
  unfold toPy toPys toPys toPys at h
  cases e1 : toPy S x with
  | none => rw [e1] at h; cases h
  | some p =>
    cases e2 : toPy S y with
    | none => rw [e1, e2] at h; cases h
    | some q => rw [e1, e2] at h; cases h; exact ⟨p, q, rfl, rfl, rfl⟩
theorem dp_pairs (s : Sub F H) : ∀ {prs : List (V × V)} {kvs : List (D × D)} {ps : List PyData}, EachIs (fun (p : V × V) (q : D × D) => DV wd K mg F α p.1 q.1 ∧ DV wd K mg F α p.2 q.2) prs kvs → toPys S (kvs.map fun p => .tup [p.1, p.2]) = some ps → DpPs K H prs ps
  | _, _, _, .nil, e => by cases e; exact .nil
  | _, _, _, .cons h t, e => by
    rw [List.map_cons] at e
    unfold toPys at e
    split at e
    · rename_i r rs e1 e2
      cases e
      obtain ⟨p, q, rfl, g1, g2⟩ := toPy_pair e1
      exact .cons (h.1.dp g1 s) (h.2.dp g2 s) (dp_pairs s t e2)
    · cases e
theorem Rel.items (hr : Rel wd K mg α F H S) {x : V} {d : D} {xs : List D} (hx : DV wd K mg F α x d) (e : itemsOf (deref S d) = some xs) :
    ∃ a prs kvs, x = .ref a ∧ ItSrc wd H a prs ∧ xs = kvs.map (fun p => .tup [p.1, p.2]) ∧ EachIs (fun (p : V × V) (q : D × D) => DV wd K mg F α p.1 q.1 ∧ DV wd K mg F α p.2 q.2) prs kvs := by
  have s := hr.see hx
  generalize hd : deref S d = dd at e s
  cases s with
  | «at» h _ => cases h <;> cases e
  | dead => cases e
  | lst _ _ => cases e
  | @dct a ws kvs rd k t =>
    cases e
    have kv := KVs.of k t
    refine ⟨a, _, kvs, rfl, .inl ⟨ws, rd, rfl⟩, rfl, each_of (by rw [List.length_map, kv.length]) fun i p q e1 e2 => ?_⟩
    obtain ⟨k, v, g1, g2, g3⟩ := kv.at e2
    rw [List.getElem?_map, g1] at e1
    cases e1
    exact ⟨by rw [g2]; exact DV.key k, g3⟩
  | @dcn a xs kvs rd t =>
    cases e
    refine ⟨a, _, kvs, rfl, .inr ⟨xs, rd, rfl⟩, rfl, each_of (by rw [List.length_map, t.length]) fun i p q e1 e2 => ?_⟩
    obtain ⟨k, b, v, g1, g2, g3⟩ := t.at e2
    rw [List.getElem?_map, g1] at e1
    cases e1
    exact ⟨g2, g3⟩
theorem Grow.rel : ∀ {Ts : List Addr} {prs : List (V × V)} {H H2 : Hp} {F : Hp}, Grow H Ts prs H2 → Rel wd K mg α F H S →
    ∃ F2, Rel wd K mg (α ++ []) F2 H2 S ∧ Stp α F H [] F2 H2 ∧ EachIs (fun T (p : V × V) => PlT K F2 T [p.1, p.2]) Ts prs
  | _, _, _, _, F, .nil, hr => ⟨F, by rw [List.append_nil]; exact hr, Stp.refl, .nil⟩
  | T :: Ts, p :: ps, H, H2, F, .cons (o := o) hn hd g, hr => by
    obtain ⟨r1, s1⟩ := hr.newF (o := .frz o (.tup [p.1, p.2])) hn
    rw [List.append_nil] at r1
    obtain ⟨F2, r2, s2, e2⟩ := Grow.rel g r1
    have s1' : Stp (α ++ []) (upd F T (.frz o (.tup [p.1, p.2]))) (upd H T (.frz o (.tup [p.1, p.2]))) [] F2 H2 := by rw [List.append_nil]; exact s2
    exact ⟨F2, r2, s1.trans s1', .cons (s2.sub.plT (PlT.new hd)) e2⟩
theorem pairs_dvs {F : Hp} : ∀ {Ts : List Addr} {prs : List (V × V)} {kvs : List (D × D)}, EachIs (fun T (p : V × V) => PlT K F T [p.1, p.2]) Ts prs → EachIs (fun (p : V × V) (q : D × D) => DV wd K mg F α p.1 q.1 ∧ DV wd K mg F α p.2 q.2) prs kvs → DVs wd K mg F α (Ts.map .ref) (kvs.map fun p => .tup [p.1, p.2])
  | _, _, _, .nil, .nil => .nil
  | _, _, _, .cons h t, .cons g u => .cons (.tup h (.cons g.1 (.cons g.2 .nil))) (pairs_dvs t u)
end
section
variable {X : Cx} {W : WX} {o : Expr} {ro : RE} {p apos cpos pos : Pos}
theorem pf_sortIt (hc : X.calm = true) (hu : X.A.units + 64 < cLine) (hm : X.mg "sorted" = none) (ho : PD X W o ro) (hg : Gl X "sorted" := by rfl)
    (hbase : attributeBase o "items" X.env (eval o X.env) = eval o X.env := by rfl) (hline : (apos.endLine == cpos.line) = true := by rfl)
    (he : starEach [.Call (.Attribute o "items" apos) [] [] cpos] X.env = (false, eval (.Call (.Attribute o "items" apos) [] [] cpos) X.env) :: starEach [] X.env := by rfl) (hpl : (backTo pos (starEach [] X.env)).any (·.1) = false := by rfl) :
    PF X W (.Call (.Name "sorted" p) [.Call (.Attribute o "items" apos) [] [] cpos] [] pos) (rSortItems ro) := by
  obtain ⟨to, po, so⟩ := ho.ex
  have inner := pe_itemsE (cpos := cpos) po hbase hline
  refine ⟨_, pe_callB (cr_sortIt hc hu) hg hm (by decide +kernel) (pa_cons inner pa_nil he) (by decide) (by decide) he hpl, fun α F σ H δ S Q hr hs h => ?_⟩
  refine so α F σ H δ S _ hr hs (wpF.bind h fun d S1 _ x H1 β F1 r1 q1 v1 h1 => ?_)
  cases e0 : itemsOf (deref S1 d) with
  | none => rw [e0] at h1; exact h1.elim
  | some ys =>
    rw [e0] at h1
    cases e3 : sortD S1 ys with
    | none => rw [Option.bind_some, e3] at h1; exact h1.elim
    | some zs =>
      rw [Option.bind_some, e3] at h1
      obtain ⟨a, prs, kvs, rfl, src, rfl, ev⟩ := r1.items v1 e0
      unfold sortD at e3
      split at e3
      · rename_i ps e4
        split at e3
        · rename_i hc4
          cases e3
          rw [Bool.and_eq_true] at hc4
          have dp := dp_pairs r1.sub ev e4
          refine ⟨a, prs, rfl, rfl, src, fun p hp => ?_⟩
          have n := r1.notin hp
          have f := r1.notF hp
          have r2 : Rel X.w X.K X.mg (α ++ β) F1 (upd H1 p (L2.DX.itemsO p a)) S1 := r1.other n f
          have sb2 : ∀ b u, H1 b = some u → upd H1 p (L2.DX.itemsO p a) b = some u := fun b u e => upd_some hp e
          refine ⟨p, a, prs, ps, rfl, upd_same, ?_, dp_pairs r2.sub ev e4, hc4.1, fun Ts H2 g l hl hl0 => ?_⟩
          · rcases src with ⟨ws, rd, e⟩ | ⟨xs, rd, e⟩
            · exact .inl ⟨ws, rd.imp (sb2 _ _) fun ⟨o, z⟩ => ⟨o, sb2 _ _ z⟩, e⟩
            · exact .inr ⟨xs, rd.imp (sb2 _ _) fun ⟨o, z⟩ => ⟨o, sb2 _ _ z⟩, e⟩
          · obtain ⟨F2, r3, s3, e5⟩ := g.rel r2
            have s2 : Stp (α ++ β) F1 H1 [] F1 (upd H1 p (L2.DX.itemsO p a)) := Stp.refl.other hp
            have s3' : Stp ((α ++ β) ++ []) F1 (upd H1 p (L2.DX.itemsO p a)) [] F2 H2 := by rw [List.append_nil]; exact s3
            have h3 := wpF.step (s2.trans s3') h1
            have dv := pairs_dvs (wd := X.w) (K := X.K) (mg := X.mg) (α := (α ++ β) ++ []) e5 (PySem.W.EachIs.mono (fun _ _ z => ⟨z.1.mono s3.sub, z.2.mono s3.sub⟩) ev)
            exact wpF.lay h3 r3 hl ⟨_, upd_same, dv.sort ps⟩ rfl
        · cases e3
      · cases e3
end
end DL

set_option Elab.async false
set_option linter.all false
set_option maxRecDepth 100000
set_option maxHeartbeats 4000000
set_option autoImplicit false
/-! Data layer: sorted(set(texts)). -/
namespace DL
open PySem PySem.Spec PyProof.Rows L2

def txV : Value → Str
  | .str x _ => x
  | _ => ⟨#[]⟩
def isTxV : Value → Bool
  | .str _ _ => true
  | _ => false
open PySem.Froz in
/-- the set of texts at a -/
def TxR (P : Program) (w : World) (h : Heap) (a : Addr) (l : List Str) : Prop :=
  ∃ D : SD, h.get? a = some (sObj "set" D) ∧ TxOk P w D l ∧ Ris D.2.2.place.toList ∧ (w.params.followText "set-order" = true ∨ D.2.2.led = true) ∧ (D.1.toList.map fun e => txV e.2).Perm l ∧ (∀ e ∈ D.1.toList, isTxV e.2 = true) ∧ l.Nodup
section
open PySem.Froz
variable {P : Program} {w : World} {A : Around} {E : Value → Shared → Prop} {s : Shared}
theorem tail_more {ep : Nat} {es1 : Array (Int × Value)} {t2 : SetTable} {wd : Bool} (r : Ris t2.place.toList) : Ris (tailTx ep es1 t2 wd).2.2.place.toList ∧ (tailTx ep es1 t2 wd).2.2.led = t2.led ∧ (tailTx ep es1 t2 wd).1.toList.Perm es1.toList := by
  unfold tailTx
  split
  · exact ⟨relayAll_ris _ _ _, relayAll_led _ _ _, relayAll_perm t2 es1 _⟩
  · exact ⟨r, rfl, .refl _⟩
theorem add_more {h : Int} {v : Value} {D : SD} (r : Ris D.2.2.place.toList) : Ris (addTx h v D).2.2.place.toList ∧ (addTx h v D).2.2.led = D.2.2.led ∧ (addTx h v D).1.toList.Perm (D.1.toList ++ [(h, v)]) := by
  unfold addTx
  have r1 := layNew_ris D.2.2 D.1 h v r
  have l1 := layNew_led D.2.2 D.1 h v
  have p1 := layNew_perm D.2.2 D.1 h v
  rw [Array.toList_push] at p1
  by_cases c : (layNew D.2.2 D.1 h v).2.1.plain = true
  · rw [if_pos c]
    obtain ⟨a1, a2, a3⟩ := tail_more (ep := D.2.1) (es1 := (layNew D.2.2 D.1 h v).1) (t2 := { (layNew D.2.2 D.1 h v).2.1 with plain := false }) (wd := (layNew D.2.2 D.1 h v).2.2.1) r1
    exact ⟨a1, a2.trans l1, a3.trans p1⟩
  · rw [if_neg c]
    obtain ⟨a1, a2, a3⟩ := tail_more (ep := D.2.1) (es1 := (layNew D.2.2 D.1 h v).1) (t2 := (layNew D.2.2 D.1 h v).2.1) (wd := (layNew D.2.2 D.1 h v).2.2.1) r1
    exact ⟨a1, a2.trans l1, a3.trans p1⟩
theorem add_old {a : Addr} {T : String} {D : SD} {l : List Str} {k : Str} {u : Tok} {Q : Bool → Shared → Prop} (ho : s.heap.get? a = some (sObj T D)) (F : TxOk P w D l) (hk : k ∈ l) (hb : l.length < scanBound)
    (h : Q false s) : wpAny (model P w) A (setAddHashed a (.str k u) (hashStr w k)) Q E s := by
  obtain ⟨es, ep, t⟩ := D
  have hd : (sObj T (es, ep, t)).data = .set es ep t := rfl
  have hf : t.fits es.size = true := F.fit
  have hel : ElemsOf (strKind P w) es.toList := F.el
  have hsz : es.size = l.length := F.sz
  have hb0 : es.size < scanBound := by omega
  have hkey : (strKind P w).is k (.str k u) = true := is_str k u
  obtain ⟨j, hj⟩ : ∃ j, List.findIdx? (fun e => (strKind P w).is k e.2) es.toList = some j := by
    cases hr : List.findIdx? (fun e => (strKind P w).is k e.2) es.toList with
    | some j => exact ⟨j, rfl⟩
    | none =>
      obtain ⟨e, he, q⟩ := (F.mem k).mp hk
      have := List.findIdx?_eq_none_iff.mp hr e he
      rw [q] at this
      cases this
  unfold setAddHashed setAddHashedIn
  refine wpAny_holding (wpAny_bind (wpAny_setState_of ho hd hf ?_))
  dsimp only
  rw [byScan_of rfl hb0 hel]
  simp only [↓reduceIte]
  unfold setAddByScan
  refine wpAny_bind ?_
  refine wpAny_bind (wpAny_rule ?_)
  refine wpAny_bind (wpAny_setScan_of (knd := strKind P w) (k := k) hkey ho hd hf hel ?_)
  rw [hj]
  dsimp only
  exact wpAny_pure (wpAny_pure h)
def addL (l : List Str) (k : Str) : List Str := if k ∈ l then l else k :: l
/-- the set of texts behind setAdd -/
theorem add_txt {a : Addr} {l : List Str} {k : Str} {u : Tok} {Q : Bool → Shared → Prop} (R : TxR P w s.heap a l) (hb : l.length + 1 < scanBound) (h : ∀ b h', TxR P w h' a (addL l k) → Heap.SameBut a s.heap h' → Q b { s with heap := h' }) :
    wpAny (model P w) A (setAddHashed a (.str k u) (hashStr w k)) Q E s := by
  obtain ⟨D, ho, F, r, ld, pm, tx, nd⟩ := R
  by_cases c : k ∈ l
  · refine add_old ho F c (by omega) (h false s.heap ?_ (Heap.SameBut.refl _ _))
    unfold addL
    rw [if_pos c]
    exact ⟨D, ho, F, r, ld, pm, tx, nd⟩
  · refine add_x ho F c hb (h true _ ?_ (Heap.SameBut.update ..))
    unfold addL
    rw [if_neg c]
    obtain ⟨m1, m2, m3⟩ := add_more (h := hashStr w k) (v := .str k u) r
    refine ⟨_, get_upd _ ho rfl, add_ok u F, m1, by rw [m2]; exact ld, ?_, fun e he => ?_, List.nodup_cons.mpr ⟨c, nd⟩⟩
    · refine (m3.map _).trans ?_
      rw [List.map_append]
      exact (List.perm_append_comm (l₁ := [k])).symm.trans (List.Perm.cons k pm)
    · rcases List.mem_append.mp (m3.mem_iff.mp he) with z | z
      · exact tx e z
      · rw [List.mem_singleton.mp z]; rfl
theorem TxR.keep {h h' : Heap} {a : Addr} {l : List Str} (R : TxR P w h a l) (k : ∀ o, h.get? a = some o → h'.get? a = some o) : TxR P w h' a l := by
  obtain ⟨D, ho, q⟩ := R
  exact ⟨D, k _ ho, q⟩
end
open PySem PyProof.Rows in
section
open PySem.Froz
variable {P : Program} {w : World} {A : Around} {E : Value → Shared → Prop} {s : Shared}
def gotL (xs : List Str) (i : Nat) : List Str := (xs.take i).foldl addL []
theorem addL_length (l : List Str) (k : Str) : (addL l k).length ≤ l.length + 1 := by
  unfold addL
  split
  · omega
  · exact Nat.le_refl _
theorem foldl_addL_length : ∀ (xs l : List Str), (xs.foldl addL l).length ≤ l.length + xs.length
  | [], l => Nat.le_refl _
  | k :: xs, l => by
    rw [List.foldl_cons]
    have h1 := foldl_addL_length xs (addL l k)
    have h2 := addL_length l k
    rw [List.length_cons]
    omega
theorem gotL_succ {xs : List Str} {i : Nat} {k : Str} (h : xs[i]? = some k) : gotL xs (i + 1) = addL (gotL xs i) k := by
  unfold gotL
  rw [List.take_succ, h, List.foldl_append] <;> rfl
theorem gotL_length (xs : List Str) (i : Nat) : (gotL xs i).length ≤ xs.length := by
  have := foldl_addL_length (xs.take i) []
  unfold gotL
  rw [List.length_nil, Nat.zero_add, List.length_take] at this
  omega
theorem set_update_txt {I : Addr} {fp wr : List Addr} {G : Array GenState → Array GenState → Prop} {n : Nat} {Pv : Nat → Value → Prop} {St : Nat → Shared → Prop} {R : Result → Shared → Prop}
    (W : WalksS P w A.in1 I fp wr G n Pv St) (S : Addr) (hSf : S ∉ fp) (xs : List Str) (hn : n = xs.length) (hfew : xs.length + 1 < scanBound) (hval : ∀ i v, Pv i v → ∃ x t, xs[i]? = some x ∧ v = .str x t)
    (h0 : Heap) (hS0 : h0.get? S = none) (hw0 : ∀ b ∈ wr, h0.get? b = none) :
    ∀ (k i : Nat) (s : Shared), n - i = k → i ≤ n → St i s → (∀ b o, h0.get? b = some o → s.heap.get? b = some o) → TxR P w s.heap S (gotL xs i) →
      (∀ s', Moved (S :: wr) G s s' → TxR P w s'.heap S (gotL xs n) → (∀ b o, h0.get? b = some o → s'.heap.get? b = some o) → R (.ok (.ret .none)) s') →
      codeAny (model P w) A (.builtin "set.update.loop" ⟨[.ref S, .ref I], []⟩) R s := by
  have hSw : S ∉ wr := fun h => hSf (W.sub _ h)
  have hsub : ∀ b ∈ wr, b ∈ S :: wr := fun b hb => List.mem_cons_of_mem _ hb
  have keepM : ∀ {s s' : Shared}, Moved wr G s s' → (∀ b o, h0.get? b = some o → s.heap.get? b = some o) → ∀ b o, h0.get? b = some o → s'.heap.get? b = some o := fun hm hkp b o e =>
    hm.heap b o (fun hb => by rw [hw0 b hb] at e; cases e) (hkp b o e)
  intro k
  induction k with
  | zero =>
    intro i s hk' hi hst hkp hS hR
    have hin : i = n := by omega
    subst hin
    refine codeAny_builtin F.entry_set_update_loop ?_
    rw [Around.under_plainId F.plain_set_update_loop _]
    show wpAny _ A.in1 (pyNext (.ref I) >>= _) _ _ s
    refine wpAny_bind (W.done s _ _ hst fun s' hm => ?_)
    show wpAny _ A.in1 (ret Value.none) _ _ s'
    exact wpAny_pure (hR s' (hm.mono hsub) (hS.keep fun o e => hm.heap S o hSw e) (keepM hm hkp))
  | succ k ih =>
    intro i s hk' hi hst hkp hS hR
    have hlt : i < n := by omega
    refine codeAny_builtin F.entry_set_update_loop ?_
    rw [Around.under_plainId F.plain_set_update_loop _]
    show wpAny _ A.in1 (pyNext (.ref I) >>= _) _ _ s
    refine wpAny_bind (W.item i s _ _ hlt hst fun v s' hP hst' hm => ?_)
    obtain ⟨x, t, hx, rfl⟩ := hval i v hP
    have hkp' := keepM hm hkp
    have hS' : TxR P w s'.heap S (gotL xs i) := hS.keep fun o e => hm.heap S o hSw e
    show wpAny _ A.in1 (holding [Value.str x t] (setAdd S (.str x t)) >>= _) _ _ s'
    refine wpAny_bind (wpAny_holding ?_)
    unfold setAdd
    refine wpAny_holding ?_
    refine wpAny_bind ((strKind P w).pyHash (is_str x t) ?_)
    have hl := gotL_length xs i
    refine add_txt (s := { s' with toks := s'.toks + 1 }) hS' (by omega) fun b h' hS2 hsb => ?_
    rw [← gotL_succ hx] at hS2
    have hkp2 : ∀ b o, h0.get? b = some o → h'.get? b = some o := fun b o e => (hsb.2 b (fun z => by rw [z, hS0] at e; cases e)).trans (hkp' b o e)
    refine wpAny_pure ⟨plainId_quiet F.plain_set_update_loop _, ih (i + 1) _ (by omega) hlt (W.frame _ s' _ _ hst' (Nat.le_add_right _ _) fun b hb o e => ?_) hkp2 hS2 fun s'' hm'' hS'' hkp'' => ?_⟩
    · rw [hsb.2 b (fun h : b = S => hSf (by rw [← h]; exact hb))]; exact e
    · refine hR s'' (Moved.trans W.gtrans ((hm.mono hsub).then_heap (Nat.le_add_right _ _) fun b o hb e => ?_) hm'') hS'' hkp''
      rw [hsb.2 b (fun h : b = S => hb (by rw [h]; exact List.mem_cons_self))]; exact e
theorem txR_fresh {h : Heap} {a : Addr} (ho : h.get? a = some { cls := .type "set", dict := none, data := .set #[] 0 (.fresh 0 0 (!w.params.followText "set-order")) }) : TxR P w h a [] :=
  ⟨(#[], 0, .fresh 0 0 (!w.params.followText "set-order")), ho, TxOk.nil rfl, List.Pairwise.nil, (by
    show _ ∨ (!w.params.followText "set-order") = true
    cases w.params.followText "set-order"
    · exact .inr rfl
    · exact .inl rfl), .refl _, (fun e he => by cases he), List.nodup_nil⟩
set_option maxHeartbeats 3200000 in
/-- set(xs) of texts -/
theorem call_set_txt {l : Addr} {items : Array Value} (xs : List Str) {Q : Value → Shared → Prop} (hh : A.handled = none) (hl : s.heap.IsList l items) (hit : StrsAre items.toList xs)
    (hfew : xs.length + 1 < scanBound)
    (h : ∀ (h' : Heap) (tk : Nat), TxR P w h' s.heap.objs.size (gotL xs xs.length) → (∀ b o, s.heap.get? b = some o → h'.get? b = some o) → Q (.ref s.heap.objs.size) { s with heap := h', toks := tk }) :
    wpAny (model P w) A (call (.type "set") [.ref l]) Q E s := by
  have hisz : items.size = xs.length := by
    rw [← StrsAre.len_eq hit, Array.length_toList]
  obtain ⟨c, tl, hmro⟩ := F.called_set.mro
  have hmade := F.called_set.made
  have hsub := F.called_set.sub
  refine wpAny_call (codeAny_of_tree ?_)
  show wpAny _ _ (callAny (.type "set") _) _ _ _
  refine wpAny_pure ⟨Code.quiet_builtin _ (by decide +kernel), codeAny_builtin F.entry_type_call ?_⟩
  rw [Around.under_plain (weight_type_call_type "set" [.ref l] []) rfl]
  have h1 := F.called_set.notType
  have h2 := F.called_set.canCreate
  have hct := F.typeCall_set_1 (.ref l)
  repeat (any_goals (first | assumption | wp_step))

  refine codeAny_mono (code_set_led1 (.ref l) (E := E) (Q₁ := fun obj s₁ => obj = .ref s.heap.objs.size ∧ s₁ = { s with heap := s.heap.push { cls := .type "set", dict := none, data := .set #[] 0 (.fresh 0 0 (!w.params.followText "set-order")) } }) ⟨rfl, rfl⟩) fun r s₁ hr => ?_
  cases r with
  | error e => exact hr
  | ok fl =>
    cases fl with
    | ret obj =>
      obtain ⟨rfl, rfl⟩ := hr
      have hS : (s.heap.push { cls := .type "set", dict := none, data := .set #[] 0 (.fresh 0 0 (!w.params.followText "set-order")) }).get? s.heap.objs.size = some { cls := .type "set", dict := none, data := .set #[] 0 (.fresh 0 0 (!w.params.followText "set-order")) } := Heap.get?_push_size _ rfl
      have hT : Shared.TypeIs { s with heap := s.heap.push { cls := .type "set", dict := none, data := .set #[] 0 (.fresh 0 0 (!w.params.followText "set-order")) } } (.ref s.heap.objs.size) "set" := ⟨_, hS, rfl⟩
      have hli := F.called_set.init.lookup
      have hbi := F.called_set.init.bind (.ref s.heap.objs.size)
      repeat (any_goals (first | assumption | wp_step))

      refine codeAny_mono (codeAny_call_builtin (R := wants (fun r s₂ => r = .none ∧ ∃ h' tk, s₂ = { s with heap := h', toks := tk } ∧ TxR P w h' s.heap.objs.size (gotL xs xs.length) ∧
          (∀ b o, s.heap.get? b = some o → h'.get? b = some o)) E) F.called_set.init.plain F.entry_set_init (check_set_init_1 hT ?_)) fun r₂ s₂ hr₂ => ?_
      · obtain ⟨ol, hol, hcl, nl, hdl⟩ := hl
        obtain ⟨ocls, odict, odata, oslots⟩ := ol
        simp only at hcl hdl
        subst hcl; subst hdl
        have hol' : (s.heap.push { cls := .type "set", dict := none, data := .set #[] 0 (.fresh 0 0 (!w.params.followText "set-order")) }).get? l = some { cls := .type "list", dict := odict, data := .seq items nl, slots := oslots } := Heap.get?_push_of_some _ hol
        have hsls := F.sub_list_set
        have hslf := F.sub_list_frozenset
        have hne : (Value.type "list" == Value.type "dict") = false := by decide
        have hl1 : (s.heap.push { cls := .type "set", dict := none, data := .set #[] 0 (.fresh 0 0 (!w.params.followText "set-order")) }).IsList l items := ⟨_, hol', rfl, nl, rfl⟩
        unfold Builtin.«set.__init__» noKeywords Builtin.Frozenset.updateFrom
        generalize hPI : pyIter = PI
        wp_walk
        subst hPI

        refine wpAny_pyIter_list hl1 ?_
        refine wpAny_bind (wpAny_runValue ?_)
        have hlS : l < s.heap.objs.size := Heap.lt_size hol
        have hh3 : A.in1.in1.in1.handled = none := by simp [hh]
        have hz1 : (s.heap.push { cls := .type "set", dict := none, data := .set #[] 0 (.fresh 0 0 (!w.params.followText "set-order")) }).objs.size = s.heap.objs.size + 1 := Heap.size_push ..
        have hneI : l ≠ (s.heap.push { cls := .type "set", dict := none, data := .set #[] 0 (.fresh 0 0 (!w.params.followText "set-order")) }).objs.size := by
          rw [Heap.size_push]; exact Nat.ne_of_lt (Nat.lt_succ_of_lt hlS)
        have hSf : s.heap.objs.size ∉ [(s.heap.push { cls := .type "set", dict := none, data := .set #[] 0 (.fresh 0 0 (!w.params.followText "set-order")) }).objs.size, l] := by
          rw [Heap.size_push]; simp only [List.mem_cons, List.mem_singleton, List.not_mem_nil, or_false, not_or]
          exact ⟨Nat.ne_of_lt (Nat.lt_succ_self _), Nat.ne_of_gt hlS⟩
        have hval : ∀ (i : Nat) (v : Value), items[i]? = some v → ∃ x t, xs[i]? = some x ∧ v = .str x t := fun i v hv => by
          obtain ⟨y, t, e1, e2⟩ := StrsAre.item hit i v (by rw [Array.getElem?_toList]; exact hv)
          exact ⟨y, t, e2, e1⟩
        have none_of : ∀ b, s.heap.objs.size ≤ b → s.heap.get? b = none := fun b hb => by
          cases q : s.heap.get? b with
          | none => rfl
          | some o => exact absurd (Nat.lt_of_lt_of_le (Heap.lt_size q) hb) (Nat.lt_irrefl _)
        refine set_update_txt ((Walks.list hh3 _ l hneI items).toS) s.heap.objs.size
          hSf xs hisz hfew hval s.heap (none_of _ (Nat.le_refl _)) (fun b hb => none_of b (by
            rw [List.mem_singleton.mp hb, Heap.size_push]
            exact Nat.le_succ _)) (items.size - 0) 0 _ (by omega) (Nat.zero_le _)
          ⟨⟨_, Heap.get?_push_size _ rfl, rfl, rfl⟩, (hl1.push _)⟩ (fun b o e => Heap.get?_push_of_some _ (Heap.get?_push_of_some _ e)) ?hS0 ?hR
        case hS0 =>
          have hget : ((s.heap.push { cls := .type "set", dict := none, data := .set #[] 0 (.fresh 0 0 (!w.params.followText "set-order")) }).push { cls := .type "list_iterator", data := .fields #[.ref l, .int 0 0] }).get? s.heap.objs.size
              = some { cls := .type "set", dict := none, data := .set #[] 0 (.fresh 0 0 (!w.params.followText "set-order")) } := Heap.get?_push_of_some _ hS
          exact txR_fresh hget
        case hR =>
          intro s' hm hS' hkp
          obtain ⟨h', g2, d', tk', os'⟩ := s'
          have eg : g2 = s.gens := hm.gens
          have ed : d' = s.drawn := hm.drawn
          have eo : os' = s.os := hm.os
          subst eg; subst ed; subst eo
          show wpAny _ _ _ _ _ _
          refine wpAny_pure ?_
          show wpAny _ _ (ret Value.none) _ _ _
          rw [hisz] at hS'
          exact wpAny_pure ⟨rfl, h', tk', rfl, hS', hkp⟩

      · cases r₂ with
        | error e => exact hr₂
        | ok fl₂ =>
          cases fl₂ with
          | ret r =>
            obtain ⟨rfl, h', tk, rfl, hS', hk'⟩ := hr₂
            repeat (any_goals (first | assumption | wp_step))
            exact h _ _ hS' hk'
          | _ => exact hr₂.elim
    | _ => exact hr.elim
end
end DL

set_option Elab.async false
set_option linter.all false
set_option maxRecDepth 100000
set_option maxHeartbeats 4000000
set_option autoImplicit false
/-! Data layer: sorted(set(texts)), its end. -/
namespace DL
open PySem PySem.Spec PyProof.Rows L2

def leT (a b : Str) : Bool := decide (a.cps.toList ≤ b.cps.toList)
def sortT (l : List Str) : List Str := l.mergeSort leT
theorem leT_trans (a b c : Str) : leT a b = true → leT b c = true → leT a c = true := fun h g => decide_eq_true (List.le_trans (of_decide_eq_true h) (of_decide_eq_true g))
theorem leT_total (a b : Str) : (leT a b || leT b a) = true := by
  rw [Bool.or_eq_true]
  exact (List.le_total a.cps.toList b.cps.toList).imp decide_eq_true decide_eq_true
theorem strT_ext {a b : Str} (h : a.cps.toList = b.cps.toList) : a = b := by
  cases a; cases b
  exact congrArg Str.mk (Array.toList_inj.mp h)
theorem leT_anti (a b : Str) (h : leT a b = true) (g : leT b a = true) : a = b := strT_ext (List.le_antisymm (of_decide_eq_true h) (of_decide_eq_true g))
theorem sortT_pairwise (l : List Str) : (sortT l).Pairwise (fun a b => leT a b = true) := List.pairwise_mergeSort (le := leT) leT_trans leT_total l
theorem sortT_perm (l : List Str) : (sortT l).Perm l := List.mergeSort_perm l leT
theorem sortT_congr {l l' : List Str} (h : l'.Perm l) : sortT l' = sortT l :=
  List.Perm.eq_of_pairwise (le := fun a b => leT a b = true) (fun a b _ _ => leT_anti a b) (sortT_pairwise l') (sortT_pairwise l) (((sortT_perm l').trans h).trans (sortT_perm l).symm)
section
open PySem.Froz PySem.W
variable {P : Program} {w : World} {A : Around} {E : Value → Shared → Prop} {s : Shared}
theorem txts_of : ∀ (vs : List Value), (∀ v ∈ vs, isTxV v = true) → StrsAre vs (vs.map txV)
  | [], _ => .nil
  | v :: vs, h => by
    have h1 := h v List.mem_cons_self
    match v, h1 with
    | .str x t, _ => exact .cons x t (txts_of vs fun u hu => h u (List.mem_cons_of_mem _ hu))
theorem each_strs : ∀ {vs : List Value} {xs : List Str}, EachIs (fun (v : Value) (x : Str) => ∃ t, v = .str x t) vs xs → StrsAre vs xs
  | _, _, .nil => .nil
  | _, _, .cons h t => by
    obtain ⟨u, rfl⟩ := h
    exact .cons _ u (each_strs t)
theorem strs_each {h : Heap} : ∀ {vs : List Value} {xs : List Str}, StrsAre vs xs → EachIs (fun (v : Value) (x : Str) => ∃ t, v = .str x t) vs xs
  | _, _, .nil => .nil
  | _, _, .cons x t r => .cons ⟨t, rfl⟩ (strs_each (h := h) r)
theorem sorted_setTx {a : Addr} {l : List Str} {Q : Value → Shared → Prop} (R : TxR P w s.heap a l) (hh : A.handled = none) (hb : l.length < scanBound) (hz : l.length ≤ sizeLine) (hu : A.units + 8 < cLine)
    (hQ : ∀ s' p (out : Array Value) (c : Nat), (∀ b o, s.heap.get? b = some o → s'.heap.get? b = some o) → s'.gens = s.gens → s'.os = s.os → s.heap.objs.size ≤ p →
      s'.heap.get? p = some (seqObj "list" out c) → StrsAre out.toList (sortT l) → Q (.ref p) s') :
    wpAny (model P w) A (call (.builtin "sorted") [.ref a]) Q E s := by
  obtain ⟨D, ho, F, r, ld, pm, tx, nd⟩ := R
  have hsz : D.1.size = l.length := F.sz
  refine Calls.call_function_entry kind_sorted plain_sorted entry_sorted (args_sorted1 _) ?_
  unfold Builtin.«sorted»
  refine wpAny_bind (m := checkCount "sorted" 1 1 _) (wpAny_pure ?_)
  refine wpAny_bind (collect_set (A := A.in1) hh ⟨_, ho, rfl, rfl⟩ F.fit (by omega) r ld fun s1 vs k1 hz1 g1 o1 pv => ?_)
  have hvl : vs.length = l.length := by rw [pv.length_eq, List.length_map, Array.length_toList]; exact hsz
  have hvt : ∀ v ∈ vs, isTxV v = true := fun v hv => by
    obtain ⟨e, he, q⟩ := List.mem_map.mp (pv.mem_iff.mp hv)
    rw [← q]; exact tx e he
  have pl : (vs.map txV).Perm l := by
    have := pv.map txV
    rw [List.map_map] at this
    exact this.trans pm
  have hI := txts_of vs hvt
  refine wpAny_bind (wpAny_newList ?_ (by rw [hvl]; omega))
  have hoL : (s1.heap.push (seqObj "list" vs.toArray 0)).get? s1.heap.objs.size = some (seqObj "list" vs.toArray 0) := Heap.get?_push_size _ rfl
  refine wpAny_bind (wpAny_holding (list_sort_data (s := { s1 with heap := s1.heap.push (seqObj "list" vs.toArray 0) }) (enc := fun x : Str => PyData.str x) hoL (strs_each (h := s1.heap) hI) (EachIs.mono (fun v x ⟨t, e⟩ => by subst e; exact ⟨[], .str x t, by simp⟩) (strs_each (h := s1.heap) hI))
    (AllAlike.of fun b b' => by simp [alike]) (Sortable.others fun b => ⟨(by simp), fun xs => (by simp)⟩) (by rw [List.length_map, hvl]; exact hz) (fun b _ => by show A.units + 1 + 1 + (PyData.str b).depth < cLine; simp only [PyData.depth]; omega) fun out h1 h2 => ?_))
  obtain ⟨c, hc⟩ := sortedHeap_at (vs := vs) (out := List.toArray out) hoL
  refine wpAny_pure ⟨_, rfl, hQ _ s1.heap.objs.size (List.toArray out) c (fun b u e => ?_) g1 o1 hz1 hc ?_⟩
  · have q := k1 b u e
    have hlt := Heap.lt_size q
    show (sortedHeap (s1.heap.push (seqObj "list" vs.toArray 0)) s1.heap.objs.size vs (List.toArray out)).get? b = some u
    rw [sortedHeap_old (Nat.ne_of_lt hlt) (by rw [size_push']; exact Nat.lt_succ_of_lt hlt)]
    exact Heap.get?_push_of_some _ q
  · have := each_strs h2
    rw [dataLe_str (fun x => x)] at this
    rw [← sortT_congr pl]
    exact this
end
end DL

set_option Elab.async false
set_option linter.all false
set_option maxRecDepth 100000
set_option maxHeartbeats 4000000
set_option autoImplicit false
/-! Data layer: slices with steps. -/
namespace DL
open PySem PySem.Spec PyProof.Rows L2

def idxS (n : Nat) (lo hi : Option Int) (k : Int) : List Nat := sliceRange (sliceBounds lo hi (some k) n).1 (sliceBounds lo hi (some k) n).2.1 (sliceBounds lo hi (some k) n).2.2
def stepS {A : Type} (xs : List A) (lo hi : Option Int) (k : Int) : List A := (idxS xs.length lo hi k).filterMap fun (i : Nat) => xs[i]?
theorem pick_step (its : List Value) (lo hi : Option Int) (k : Int) : slicePick its.toArray lo hi (some k) = (stepS its lo hi k).toArray := by
  unfold slicePick stepS idxS
  simp
def SlRs (X : Cx) (r : V → Option Int → Option Int → Int → Hp → VK → Prop) : Prop :=
  ∀ (pins : List (Addr × Obj)) (s : Shared) (σ : L2.St) (H : Hp) (x : V) (v vl vu vk : Value) (lo hi : Option Int) (k : Int) (sl : Addr) (Q : VK), Inv X pins σ H s → RelV x v → s.heap.IsSliceOf sl vl vu vk → IsPart vl lo → IsPart vu hi → IsPart vk (some k) → r x lo hi k H Q →
    ∃ T id, typeLookup (.type T) "__getitem__" = pure (some (.builtin id)) ∧ s.TypeIs v T ∧ wpAny (model X.prog X.w) X.A (getItem v (.ref sl)) (EP X pins σ Q) X.xe s
def tSlS (r : V → Option Int → Option Int → Int → Hp → VK → Prop) (te : TE) (tl th tk : TO) : TE := fun σ H Q => te σ H fun x H1 => tl σ H1 fun l H2 => th σ H2 fun u H3 => tk σ H3 fun k H4 => ∃ k', k = some k' ∧ r x l u k' H4 Q
section
variable {X : Cx} {e st : Expr} {te : TE} {lo hi : Option Expr} {tl th tk : TO} {pos p2 : Pos}
theorem pe_sliceS {r : V → Option Int → Option Int → Int → Hp → VK → Prop} (hr : SlRs X r) (he : PE X e te) (hl : PO X lo tl) (hu : PO X hi th) (hk : PO X (some st) tk) : PE X (.Subscript e (.Slice lo hi (some st) p2) pos) (tSlS r te tl th tk) := by
  refine ⟨fun pins s σ H Q I h => ?_⟩
  refine Subscript_ (thn (he.run pins s σ H _ I h) fun v s1 ⟨x, H1, I1, r1, q1⟩ => ?_)
  refine wpAny_Slice (thn (hl.run pins s1 σ H1 _ I1 q1) fun vl s2 ⟨l, H2, I2, pl, q2⟩ => thn (hu.run pins s2 σ H2 _ I2 q2) fun vu s3 ⟨u, H3, I3, pu, q3⟩ => thn (hk.run pins s3 σ H3 _ I3 q3) fun vk s4 ⟨k, H4, I4, pk, k', ek, q4⟩ => ?_)
  subst ek
  have I5 : Inv X pins σ H4 { s4 with heap := s4.heap.push { cls := .type "slice", data := .fields #[vl, vu, vk] } } := I4.kept (t' := s4.toks) fun b ob q => Heap.get?_push_of_some _ q
  obtain ⟨T, id, hT, ht, hg⟩ := hr pins { s4 with heap := s4.heap.push { cls := .type "slice", data := .fields #[vl, vu, vk] } } σ H4 x v vl vu vk l u k' s4.heap.objs.size Q I5 r1 (Heap.IsSliceOf.new ..) pl pu pk q4
  show wpAny (model X.prog X.w) X.A (subscriptTail e (.Slice lo hi (some st) p2) v (.ref s4.heap.objs.size)) (EP X pins σ Q) X.xe { s4 with heap := s4.heap.push { cls := .type "slice", data := .fields #[vl, vu, vk] } }
  exact tail_any (ops := [v, .ref s4.heap.objs.size]) ht hT hg (by with_unfolding_all rfl)
theorem SlRs.or {r r' : V → Option Int → Option Int → Int → Hp → VK → Prop} (h : SlRs X r) (h' : SlRs X r') : SlRs X (fun x lo hi k H Q => r x lo hi k H Q ∨ r' x lo hi k H Q) := by
  intro pins s σ H x v vl vu vk lo hi k sl Q I rx hs pl pu pk q
  rcases q with q | q
  · exact h pins s σ H x v vl vu vk lo hi k sl Q I rx hs pl pu pk q
  · exact h' pins s σ H x v vl vu vk lo hi k sl Q I rx hs pl pu pk q
theorem vals_step {us : List V} {vs : List Value} (h : Vals us vs) (is : List Nat) : Vals (is.filterMap fun (i : Nat) => us[i]?) (is.filterMap fun (i : Nat) => vs[i]?) := by
  induction is with
  | nil => exact .nil
  | cons i is ih =>
    rw [List.filterMap_cons, List.filterMap_cons]
    cases e : us[i]? with
    | none =>
      have : vs[i]? = none := by rw [List.getElem?_eq_none_iff] at e ⊢; rw [← h.length]; exact e
      rw [this]
      exact ih
    | some u =>
      obtain ⟨v, e2, r⟩ := h.get e
      rw [e2]
      exact .cons r ih
def rSlLs (K : PySem.W.Frag) : V → Option Int → Option Int → Int → Hp → VK → Prop := fun x lo hi k H Q => ∃ a xs, x = .ref a ∧ SqL K H a xs ∧ k ≠ 0 ∧ (stepS xs lo hi k).length ≤ sizeLine ∧ ∀ p, H p = none → Q (.ref p) (upd H p (.lst (stepS xs lo hi k)))
theorem sl_listS : SlRs X (rSlLs X.K) := by
  intro pins s σ H x v vl vu vk lo hi k sl Q I rx hs pl pu pk h
  obtain ⟨a, xs, rfl, hx, h0, hz2, q⟩ := h
  cases rx
  obtain ⟨its, r, ht, hz⟩ := I.list hx
  have hlen := r.length
  refine ⟨"list", _, slot_list_getitem.lookup, ht.isList.typeIs, ?_⟩
  refine wpAny_getItem_list_slice ht.isList hs pl pu pk (fun z => h0 (Option.some.inj z)) ?_ (by rw [List.size_toArray] <;> omega)
  rw [pick_step]
  refine ⟨.ref s.heap.objs.size, _, I.laid (t' := s.toks) (o := .lst (stepS xs lo hi k)) (fun b ob q => Heap.get?_push_of_some _ q) (Nat.le_refl _) ?_, rfl, q _ (I.hok.fresh (Nat.le_refl _))⟩
  refine ⟨hz2, stepS its lo hi k, 0, ?_, Heap.get?_push_size _ rfl⟩
  unfold stepS
  rw [hlen]
  exact vals_step r _
end
section
variable {prog : Program} {w : World} {A : Around} {E : Value → Shared → Prop} {s : Shared}
theorem places_rev (n : Nat) : Builtin.Slice.slicePlaces ((n : Int) - 1) (-1) (-1) = n := by
  unfold Builtin.Slice.slicePlaces
  have h1 : ¬ ((-1 : Int) > 0) := by decide
  simp only [h1, if_false]
  by_cases h : (n : Int) - 1 > -1
  · rw [if_pos h]
    have e : ((n : Int) - 1 - -1 - 1) / (- -1) + 1 = n := by
      rw [show (- -1 : Int) = 1 by decide, Int.ediv_one]
      omega
    rw [e, Int.toNat_natCast]
  · rw [if_neg h]
    have e : n = 0 := by omega
    subst e
    rfl
theorem rev_places (items : Array Value) : (List.range items.size).filterMap (fun (m : Nat) => items[((items.size : Int) - 1 + (m : Int) * -1).toNat]?) = items.toList.reverse := by
  have h1 : (List.range items.size).filterMap (fun (m : Nat) => items[((items.size : Int) - 1 + (m : Int) * -1).toNat]?) = ((List.range items.size).map fun k => items.size - 1 - k).filterMap (items[·]?) := by
    rw [List.filterMap_map]
    generalize hn : List.range items.size = l
    have hl : ∀ m ∈ l, m < items.size := fun m hm => List.mem_range.mp (hn ▸ hm)
    clear hn
    induction l with
    | nil => rfl
    | cons m l ih =>
      have hm := hl m List.mem_cons_self
      have e : ((items.size : Int) - 1 + (m : Int) * -1).toNat = items.size - 1 - m := by omega
      rw [List.filterMap_cons, List.filterMap_cons, ih fun z hz => hl z (List.mem_cons_of_mem _ hz), e]
      rfl
  rw [h1, PySem.W.krv_range, List.filterMap_reverse, PySem.W.krv_all]
open HT in
theorem getItem_tuple_rev {t sl : Addr} {items : Array Value} {vk : Value} {Q : Value → Shared → Prop} (ht : IsTup s.heap t items) (hs : s.heap.IsSliceOf sl .none .none vk) (pk : IsPart vk (some (-1)))
    (h : Q (.ref s.heap.objs.size) { s with heap := s.heap.push { cls := .type "tuple", data := .seq items.toList.reverse.toArray } })
    (hsz : items.size ≤ sizeLine) : wpAny (model prog w) A (getItem (.ref t) (.ref sl)) Q E s := by
  have htake : sizeOk (.seq items.toList.reverse.toArray) := by
    show items.toList.reverse.toArray.size ≤ sizeLine
    rw [List.size_toArray, List.length_reverse, Array.length_toList]
    exact hsz
  obtain ⟨os, hos, hcs, hds⟩ := id hs
  have hTs : s.TypeIs (.ref sl) "slice" := ⟨os, hos, hcs⟩
  unfold getItem
  try with_reducible refine wpAny_holding ?_
  first | refine wpAny_bind (wpAny_pure ?_) | skip
  refine wpAny_bind (wpAny_sequenceKey ht.typeIs (by decide) ?_)
  refine wpAny_bind (wpAny_callSpecial?_slot (name := Str.ofString "__getitem__") ht.typeIs PyProof.Rows.slot_tuple_getitem
    (wpAny_call_entry PyProof.Rows.slot_tuple_getitem ht.typeIs entry_tuple_getitem ?_ (args_tuple_getitem _ _)))
  show wpAny _ _ (Builtin.Tuple.tupleItemsOf (.ref t) >>= _) _ _ s
  refine wpAny_bind (tupleItemsOf_ ht ?_)
  refine wpAny_bind (wpAny_typeOf hTs ?_)
  rw [if_pos (by decide)]
  have ap : ∀ {R : Int × Int × Nat → Shared → Prop}, R ((items.size : Int) - 1, -1, items.size) s → wpAny (model prog w) A.in1 (Builtin.Slice.sliceApplied (.ref sl) (pure (items.size : Int))) R E s := by
    intro R hR
    unfold Builtin.Slice.sliceApplied Builtin.Slice.sliceFields
    refine wpAny_bind (wpAny_bind (wpAny_field hos hds (x := .none) rfl (wpAny_bind (wpAny_field hos hds (x := .none) rfl (wpAny_bind (wpAny_field hos hds (x := vk) rfl (wpAny_pure ?_)))))))
    refine wpAny_bind (slicePart_ pk ?_)
    show wpAny _ _ (if ((-1 : Int) == 0) = true then _ else _) _ _ s
    rw [if_neg (by decide)]
    refine wpAny_bind (slicePart_none (wpAny_bind (slicePart_none (wpAny_bind (wpAny_pure ?_)))))
    show wpAny _ _ (pure ((items.size : Int) - 1, (-1 : Int), Builtin.Slice.slicePlaces ((items.size : Int) - 1) (-1) (-1))) _ _ s
    rw [places_rev]
    exact wpAny_pure hR
  refine wpAny_bind (ap ?_)
  have hno : ¬ ((((items.size : Int) - 1) == 0 && (-1 : Int) == 1 && items.size == items.size) = true) := by
    intro q
    rw [Bool.and_eq_true, Bool.and_eq_true] at q
    exact absurd q.1.2 (by decide)
  show wpAny _ _ (if (((items.size : Int) - 1) == 0 && (-1 : Int) == 1 && items.size == items.size) = true then _ else _) _ _ s
  rw [if_neg hno, rev_places]
  first
    | exact wpAny_bind (m := Builtin.Tuple.tupleExact _) (wpAny_newObj_type (wpAny_pure ⟨_, rfl, wpAny_pure h⟩) htake)
    | exact wpAny_bind (m := Builtin.Tuple.tupleExact _) (wpAny_newObj_type (wpAny_bind (wpAny_pure (wpAny_pure ⟨_, rfl, wpAny_pure h⟩))) htake)
    | exact wpAny_bind (wpAny_bind (m := Builtin.Tuple.tupleExact _) (wpAny_newObj_type (wpAny_pure (wpAny_pure ⟨_, rfl, wpAny_pure h⟩)) htake))
    | exact wpAny_bind (wpAny_bind (m := Builtin.Tuple.tupleExact _) (wpAny_newObj_type (wpAny_pure ⟨_, rfl, wpAny_pure h⟩) htake))
end
section
variable {X : Cx}
def rSlTs (K : PySem.W.Frag) : V → Option Int → Option Int → Int → Hp → VK → Prop := fun x lo hi k H Q => ∃ a xs, x = .ref a ∧ SqT K H a xs ∧ lo = none ∧ hi = none ∧ k = -1 ∧ TLays H xs.reverse Q
theorem sl_tupS : SlRs X (rSlTs X.K) := by
  intro pins s σ H x v vl vu vk lo hi k sl Q I rx hs pl pu pk h
  obtain ⟨a, xs, rfl, hx, rfl, rfl, rfl, q⟩ := h
  cases rx
  obtain ⟨its, r, ht, hz⟩ := I.tuple hx
  cases pl
  cases pu
  refine ⟨"tuple", _, PyProof.Rows.slot_tuple_getitem.lookup, ht.typeIs, ?_⟩
  refine getItem_tuple_rev ht hs pk ?_ (by rw [List.size_toArray, ← r.length]; exact hz)
  have rr : Vals xs.reverse its.reverse := r.reverse
  exact ⟨.ref s.heap.objs.size, _, I.laid (t' := s.toks) (o := .frz (tupObj its.reverse.toArray) (.tup xs.reverse)) (fun b ob q => Heap.get?_push_of_some _ q) (Nat.le_refl _) (tup_frz (by rw [List.length_reverse]; exact hz) rr), rfl, q _ (I.hok.fresh (Nat.le_refl _)) _ rfl⟩
end
/-! ### by data -/
def rStep (a : RE) (l h k : RO) : RE := fun δ S => (a δ S).bind fun d S1 => (l δ S1).bind fun i S2 => (h δ S2).bind fun j S3 => (k δ S3).bind fun z S4 => match z with
  | some n => (match deref S4 d with
    | .lst xs => if n ≠ 0 ∧ (stepS xs i j n).length ≤ sizeLine then .ok (.lst (stepS xs i j n)) S4 else .stuck
    | .tup xs => if i = none ∧ j = none ∧ n = -1 then .ok (.tup xs.reverse) S4 else .stuck
    | _ => .stuck)
  | none => .stuck
section
variable {X : Cx} {W : WX} {a st : Expr} {ra : RE} {pos p2 : Pos} {lo hi : Option Expr} {ol oh ok : RO} {wd : World} {K : Fg} {mg : Str → Option Value} {α : List Addr} {F : Hp}
theorem step_DVs {us : List V} {xs : List D} (h : DVs wd K mg F α us xs) (is : List Nat) : DVs wd K mg F α (is.filterMap fun (i : Nat) => us[i]?) (is.filterMap fun (i : Nat) => xs[i]?) := by
  induction is with
  | nil => exact .nil
  | cons i is ih =>
    rw [List.filterMap_cons, List.filterMap_cons]
    cases e : xs[i]? with
    | none =>
      have : us[i]? = none := by rw [List.getElem?_eq_none_iff] at e ⊢; rw [h.length]; exact e
      rw [this]
      exact ih
    | some u =>
      obtain ⟨v, e2, r⟩ := h.get e
      rw [e2]
      exact .cons r ih
theorem pd_step (ha : PD X W a ra) (hl : POd X W lo ol) (hh : POd X W hi oh) (hk : POd X W (some st) ok) : PD X W (.Subscript a (.Slice lo hi (some st) p2) pos) (rStep ra ol oh ok) := by
  obtain ⟨ta, pa, sa⟩ := ha.ex
  obtain ⟨tl, pl, sl⟩ := hl.ex
  obtain ⟨th, ph, sh⟩ := hh.ex
  obtain ⟨tk, pk, sk⟩ := hk.ex
  refine ⟨_, pe_sliceS (sl_listS.or sl_tupS) pa pl ph pk, fun α F σ H δ S Q hr hs h => ?_⟩
  refine sa α F σ H δ S _ hr hs (wp.bind h fun d S1 _ x H1 β F1 r1 q1 v1 h1 => ?_)
  refine sl (α ++ β) F1 σ H1 δ S1 _ r1 (hs.mono q1.sub) (wp.bind h1 fun i S2 _ i' H2 γ F2 r2 q2 v2 h2 => ?_)
  have v2 : i' = i := v2
  subst v2
  refine sh (α ++ β ++ γ) F2 σ H2 δ S2 _ r2 ((hs.mono q1.sub).mono q2.sub) (wp.bind h2 fun j S3 _ j' H3 ε F3 r3 q3 v3 h3 => ?_)
  have v3 : j' = j := v3
  subst v3
  refine sk (α ++ β ++ γ ++ ε) F3 σ H3 δ S3 _ r3 (((hs.mono q1.sub).mono q2.sub).mono q3.sub) (wp.bind h3 fun k S4 _ k' H4 ζ F4 r4 q4 v4 h4 => ?_)
  have v4 : k' = k := v4
  subst v4
  have vx := ((v1.mono (β := γ) q2.sub).mono (β := ε) q3.sub).mono (β := ζ) q4.sub
  cases k' with
  | none => exact h4.elim
  | some n =>
  dsimp only at h4
  split at h4
  · rename_i xs e1
    split at h4
    · rename_i hc
      obtain ⟨l, us, rfl, a1, a2⟩ := r4.viewL vx e1
      have el : (stepS us i' j' n).length = (stepS xs i' j' n).length := by
        unfold stepS
        rw [a2.length]
        exact (step_DVs a2 _).length
      refine ⟨n, rfl, .inl ⟨l, us, rfl, a1, hc.1, by rw [el]; exact hc.2, fun p hp => ?_⟩⟩
      have dv : DVs X.w X.K X.mg F4 (α ++ β ++ γ ++ ε ++ ζ) (stepS us i' j' n) (stepS xs i' j' n) := by
        unfold stepS
        rw [a2.length]
        exact step_DVs a2 _
      obtain ⟨c1, c2, c3⟩ := r4.lst dv hp
      exact h4 _ _ _ _ c1 c2 c3
    · exact h4.elim
  · rename_i xs e1
    split at h4
    · rename_i hc
      obtain ⟨g1, g2, g3⟩ := hc
      obtain ⟨l, us, rfl, a1, a2⟩ := r4.viewT vx e1
      refine ⟨n, rfl, .inr ⟨l, us, rfl, a1, g1, g2, g3, fun p hp o ho => ?_⟩⟩
      obtain ⟨c1, c2, c3⟩ := r4.tup a2.reverse hp ho
      exact h4 _ _ _ _ c1 c2 c3
    · exact h4.elim
  · exact h4.elim
end
end DL

set_option Elab.async false
set_option linter.all false
set_option maxRecDepth 100000
set_option maxHeartbeats 4000000
set_option autoImplicit false
/-! Data layer: sorted(set(texts)), zip of tuples, calls of defs that a name holds. -/
namespace DL
open PySem PySem.Spec PyProof.Rows L2

/-! ### sorted(set(texts)) -/
def setT (ts : List Str) : List Str := sortT (gotL ts ts.length)
def SetX (P : Program) (w : World) (a : Addr) (l : List Str) : HO := .ext fun h => TxR P w h a l
theorem setX_new {P : Program} {w : World} {H : Hp} {h : Heap} {a : Addr} {l : List Str} (R : TxR P w h a l) : ObjOk P w H h a (SetX P w a l) := by
  have ⟨D, ho, q⟩ := R
  exact ⟨R, ⟨_, ho⟩, fun h1 h2 p k => p.keep fun o e => k o e⟩
section
variable {X : Cx}
theorem strs_of_vals {ts : List Str} {us : List Value} (h : Vals (ts.map V.str) us) : StrsAre us ts := by
  induction ts generalizing us with
  | nil => rw [List.map_nil] at h; cases h; exact .nil
  | cons t ts ih =>
    rw [List.map_cons] at h
    cases h with
    | cons r1 r2 =>
      obtain ⟨tk, rfl⟩ := r1
      exact .cons t tk (ih r2)
theorem vals_of_strs {ts : List Str} {us : List Value} (h : StrsAre us ts) : Vals (ts.map V.str) us := by
  induction h with
  | nil => exact .nil
  | cons x t _ ih => exact .cons ⟨t, rfl⟩ ih
theorem cr_setTx (hc : X.calm = true) : CallR X (.type "set") (fun xs H Q => ∃ (l : Addr) (ts : List Str), xs = [.ref l] ∧ SqL X.K H l (ts.map V.str) ∧ ts.length + 1 < scanBound ∧ ∀ p, H p = none → Q (.ref p) (upd H p (SetX X.prog X.w p (gotL ts ts.length)))) := by
  intro pins s σ H xs us Q I r h
  obtain ⟨l, ts, rfl, hl, hf, q⟩ := h
  rw [Vals.ref1 r]
  obtain ⟨its, rv, pl, hz⟩ := I.list hl
  have hn : H s.heap.objs.size = none := I.hok.fresh (Nat.le_refl _)
  refine call_set_txt ts (I.ok.hd hc) pl.isList (by simpa using strs_of_vals rv) hf fun h' tk R k => ?_
  exact ⟨.ref s.heap.objs.size, upd H s.heap.objs.size (SetX X.prog X.w s.heap.objs.size (gotL ts ts.length)), I.laid (t' := tk) k (Nat.le_refl _) (setX_new R), rfl, q _ hn⟩
theorem cr_sortedTx (hc : X.calm = true) (hu : X.A.units + 64 < cLine) : CallR X (.builtin "sorted") (fun xs H Q => ∃ (a : Addr) (l : List Str), xs = [.ref a] ∧ H a = some (SetX X.prog X.w a l) ∧ l.length < scanBound ∧ l.length ≤ sizeLine ∧ ∀ p, H p = none → Q (.ref p) (upd H p (.lst ((sortT l).map V.str)))) := by
  intro pins s σ H xs us Q I r h
  obtain ⟨a, l, rfl, ha, hb, hz, q⟩ := h
  rw [Vals.ref1 r]
  have R0 : TxR X.prog X.w s.heap a l := (I.hok a _ ha).1
  refine sorted_setTx R0 (I.ok.hd hc) hb hz (by omega) fun s' p out c k g o hp hg hout => ?_
  have hlen : ((sortT l).map V.str).length ≤ sizeLine := by rw [List.length_map, (sortT_perm l).length_eq]; exact hz
  have hn : H p = none := I.hok.fresh hp
  have J : Inv X pins σ (upd H p (.lst ((sortT l).map V.str))) { s with heap := s'.heap, gens := s'.gens, drawn := s'.drawn, toks := s'.toks } :=
    I.call (ch := []) (Un.laid k hp hn) (I.hok.laid k hp ⟨hlen, out.toList, c, vals_of_strs hout, hg⟩) (by rw [g]; exact I.bare) (fun _ z => nomatch z)
  have e : s' = { s with heap := s'.heap, gens := s'.gens, drawn := s'.drawn, toks := s'.toks } := by
    cases s'
    cases s
    cases o
    rfl
  rw [e]
  exact ⟨.ref p, _, J, rfl, q p hn⟩
end
def rSortSet (a : RE) : RE := fun δ S => (a δ S).bind fun d S1 => match deref S1 d with
  | .lst xs => (match asStrs xs with
    | some ts => if ts.length + 1 < scanBound ∧ ts.length ≤ sizeLine then .ok (.lst ((setT ts).map .str)) S1 else .stuck
    | none => .stuck)
  | _ => .stuck
section
variable {X : Cx} {W : WX} {a b c e tg : Expr} {es rest : List Expr} {ra rb rc : RE} {rs : RA} {pos p p2 pos2 : Pos}
theorem pf_sortSet (hc : X.calm = true) (hu : X.A.units + 64 < cLine) (hm : X.mg "sorted" = none) (hm2 : X.mg "set" = none) (ha : PD X W a ra) (hg : Gl X "sorted" := by rfl) (hg2 : Gl X "set" := by rfl)
    (he : starEach [.Call (.Name "set" p2) [a] [] pos2] X.env = (false, eval (.Call (.Name "set" p2) [a] [] pos2) X.env) :: starEach [] X.env := by rfl) (hpl : (backTo pos (starEach [] X.env)).any (·.1) = false := by rfl)
    (he2 : starEach [a] X.env = (false, eval a X.env) :: starEach [] X.env := by rfl) (hpl2 : (backTo pos2 (starEach [] X.env)).any (·.1) = false := by rfl) :
    PF X W (.Call (.Name "sorted" p) [.Call (.Name "set" p2) [a] [] pos2] [] pos) (rSortSet ra) := by
  obtain ⟨ta, pa, sa⟩ := ha.ex
  refine ⟨_, pe_callB (cr_sortedTx hc hu) hg hm (by decide +kernel) (pa_cons (pe_callTy (cr_setTx hc) hg2 hm2 (by decide +kernel) (pa_cons pa pa_nil he2) (by decide) (by decide) he2 hpl2) pa_nil he) (by decide) (by decide) he hpl, fun α F σ H δ S Q hr hs h => ?_⟩
  refine sa α F σ H δ S _ hr hs (wpF.bind h fun d S1 _ x H1 β F1 r1 q1 v1 h1 => ?_)
  split at h1
  · rename_i xs e1
    split at h1
    · rename_i ts e2
      split at h1
      · rename_i hl
        obtain ⟨l, us, rfl, a1, a2⟩ := r1.viewL v1 e1
        rw [asStrs_eq e2] at a2
        have := DVs.strs a2
        subst this
        refine ⟨l, ts, rfl, a1, hl.1, fun p hp => ?_⟩
        have n := r1.notin hp
        have f := r1.notF hp
        have gl := gotL_length ts ts.length
        refine ⟨p, gotL ts ts.length, rfl, upd_same, by omega, by omega, fun q hq => ?_⟩
        have r2 : Rel X.w X.K X.mg (α ++ β) F1 (upd H1 p (SetX X.prog X.w p (gotL ts ts.length))) S1 := r1.other n f
        have s2 : Stp (α ++ β) F1 H1 [] F1 (upd H1 p (SetX X.prog X.w p (gotL ts ts.length))) := Stp.refl.other hp
        have h2 := wpF.step s2 h1
        rw [List.append_nil] at h2
        exact wpF.lay h2 r2 hq ⟨_, upd_same, DVs.of_strs _⟩ rfl
      · exact h1.elim
    · exact h1.elim
  · exact h1.elim
/-! ### zip of two lists, of two tuples -/
def rZipA (a : RA) : RA := fun δ S => (a δ S).bind fun xs S1 => match xs with
  | [.lst ds, .lst es] => .ok (zipD ds es) S1
  | [.tup ds, .tup es] => .ok (zipD ds es) S1
  | _ => .stuck
end
section
variable {wd : World} {K : Fg} {mg : Str → Option Value} {α : List Addr} {F H : Hp} {S : Sto}
theorem it_zipT {l m : Addr} {us ws : List V} {ds es : List D} (h : SqT K F l us) (hv : DVs wd K mg F α us ds) (g : SqT K F m ws) (gv : DVs wd K mg F α ws es) : ItOk wd K mg F α (RZ.ItzT K l m) (zipD ds es) where
  go := fun F' H' i a b hi => by
    rw [zipD_len] at hi
    obtain ⟨v, e1, _⟩ := hv.get (List.getElem?_eq_getElem (by omega : i < ds.length))
    obtain ⟨u, e2, _⟩ := gv.get (List.getElem?_eq_getElem (by omega : i < es.length))
    exact ⟨us, ws, v, u, (a.trans b).sqT h, (a.trans b).sqT g, e1, e2⟩
  stop := fun F' H' a b => ⟨us, ws, (a.trans b).sqT h, (a.trans b).sqT g, by rw [hv.length, gv.length, zipD_len]; omega⟩
  yld := fun F' H' H2 i x d a b hd ⟨T, y, y2, e1, e2, e3, e4, e5⟩ => by
    have f1 := e4 us ((a.trans b).sqT h)
    have f2 := e5 ws ((a.trans b).sqT g)
    obtain ⟨p, q, e6, e7, rfl⟩ := zipD_get hd
    obtain ⟨v, e8, e9⟩ := hv.get e6
    rw [f1] at e8; cases e8
    obtain ⟨v2, e10, e11⟩ := gv.get e7
    rw [f2] at e10; cases e10
    subst e1
    have nF : F' T = none := by
      cases z : F' T with
      | none => rfl
      | some u => rw [b _ _ z] at e2; cases e2
    have sb := a.trans (Sub.new (o := .tup [y, y2]) nF)
    refine .inr ⟨T, _, e2, e3, .tux (SqT.of upd_same) (.cons ?_ (.cons ?_ .nil))⟩
    · have := e9.mono (β := []) sb
      rw [List.append_nil] at this; exact this
    · have := e11.mono (β := []) sb
      rw [List.append_nil] at this; exact this
end
section
variable {X : Cx} {W : WX} {a b c e tg : Expr} {es rest : List Expr} {ra rb rc : RE} {rs : RA} {pos p p2 pos2 : Pos}
theorem pid_zipA {elts : List Expr} {kk : Nat} {tpos : Pos} (hm : X.mg "zip" = none) (ha : PDs X W [a, b] rs) (hg : Gl X "zip" := by rfl) (hs : starEach [a, b] X.env = (false, eval a X.env) :: starEach [b] X.env := by rfl) (hpl : (backTo pos (starEach [b] X.env)).any (·.1) = false := by rfl) : PId X W (.Tuple elts kk tpos) (.Call (.Name "zip" p) [a, b] [] pos) (rZipA rs) := by
  obtain ⟨t, p1, s1⟩ := ha.ex
  refine ⟨_, RZ.pi_zipA hg hm p1 hs hpl, fun α F σ H δ S Q hr hs h => ?_⟩
  refine s1 α F σ H δ S _ hr hs (wp.bind h fun ds S1 e1 xs H1 β F1 r1 q1 v1 h1 => ?_)
  have hl := ha.len _ _ _ _ e1
  match ds, hl with
  | [d, d'], _ =>
    cases v1 with
    | cons v1 vn =>
      cases vn with
      | cons v2 vn =>
        cases vn
        cases d with
        | lst ys =>
          cases d' with
          | lst zs =>
            cases v1 with
            | lst a1 a2 => cases v2 with
              | lst b1 b2 => exact ⟨_, _, _, _, rfl, .inl ⟨r1.sub.sqL a1, r1.sub.sqL b1, h1.now r1 (it_zip a1 a2 b1 b2)⟩⟩
          | _ => exact h1.elim
        | tup ys =>
          cases d' with
          | tup zs =>
            cases v1 with
            | tup a1 a2 => cases v2 with
              | tup b1 b2 => exact ⟨_, _, _, _, rfl, .inr ⟨r1.sub.sqT a1.1, r1.sub.sqT b1.1, h1.now r1 (it_zipT a1.1 a2 b1.1 b2)⟩⟩
          | _ => exact h1.elim
        | _ => exact h1.elim
/-! ### a call of a def that a name holds -/
def rCallV (i : Nat) (ms : List (Str × Mir)) (a : RA) : RE := fun δ S => match δ[i]? with
  | some (some (.fn y)) => (match ms.lookup y with
    | some m => (a δ S).bind m
    | none => .stuck)
  | _ => .stuck
def tCallV (X : Cx) (W : WX) (i : Nat) (t : TA) : TE := fun σ H Q => ∃ (f : Addr) (fd : FuncData) (ps : List Str) (k : Nat) (sp : Sp), σ[i]? = some (some (.ref f)) ∧ FnG X.prog X.w X.K X.mg X.base k f fd ps sp ∧ Room k X.A ∧ PySem.W.keepIn X.K (.ref f) = true ∧ Binds X.K fd ps [] ∧ t σ H fun vs H1 => sp vs H1 Q (WE W σ)
theorem pd_callV {i n : Nat} {x : Str} {ms : List (Str × Mir)} (hall : ∀ y m, ms.lookup y = some m → ∃ k, Fn X.prog X.w X.K X.mg X.base y n k m ∧ Room k X.A) (hG : X.A.guards = some []) (tk : Takes X W) (ha : PDs X W (e :: es) rs) (hl : (e :: es).length = n := by rfl)
    (hN : X.N[i]? = some x := by rfl) (hv : Vis X.env.scope x := by first | exact Or.inl rfl | exact Or.inr (Or.inl rfl) | exact Or.inr (Or.inr rfl)) (hd : (x == ("__debug__" : Str)) = false := by decide) (hcd : (x == ("__classdict__" : Str)) = false := by decide)
    (he : starEach (e :: es) X.env = (false, eval e X.env) :: starEach es X.env := by rfl) (hpl : (backTo pos (starEach es X.env)).any (·.1) = false := by rfl) : PD X W (.Call (.Name x p) (e :: es) [] pos) (rCallV i ms rs) := by
  obtain ⟨t, pt, st⟩ := ha.ex
  refine ⟨tCallV X W i t, ⟨fun pins s σ H Q I h => ?_⟩, fun α F σ H δ S Q hr hs h => ?_⟩
  · obtain ⟨f, fd, ps, k, sp, h1, h2, h3, h4, h5, h6⟩ := h
    refine wpAny_Call_Name_kw (thn ((pe_var (pos := p) hN hv hd hcd).run pins s σ H (fun v H1 => v = .ref f ∧ H1 = H) I ⟨.ref f, h1, rfl, rfl⟩) fun u s1 ⟨v, H1, I1, r1, q1⟩ => ?_)
    obtain ⟨rfl, rfl⟩ := q1
    cases r1
    exact PySem.W.callWith_K (h₀ := X.base) I.ok.mod.kin h4 (thn (pt.run pos pins s1 σ _ _ I1 h6) fun us s2 ⟨vs, H2, I2, r, q⟩ => ⟨I2.kIn, h2.call h3 hG h5 tk I2 r q⟩) he hpl
  · unfold rCallV at h
    split at h
    · rename_i y e1
      split at h
      · rename_i m e2
        obtain ⟨k, F1, R1⟩ := hall y m e2
        obtain ⟨f, fd, ps, g1, g2, g3, g4⟩ := F1.ex
        obtain ⟨v, k1, k2⟩ := hs.2 i _ e1
        cases k2 with
        | fn k3 =>
          rw [g1] at k3
          cases k3
          refine ⟨f, fd, ps, k, _, k1, g4, R1, g2, g3, ?_⟩
          refine st α F σ H δ S _ hr hs (wp.bind h fun ds S1 e1 xs H1 β F1 r1 q1 v1 h1 => ?_)
          exact ⟨by rw [v1.length, ha.len _ _ _ _ e1]; exact hl, α ++ β, F1, S1, ds, r1, v1, h1⟩
      · exact h.elim
    · exact h.elim
end
end DL

set_option Elab.async false
set_option linter.all false
set_option maxRecDepth 100000
set_option maxHeartbeats 4000000
set_option autoImplicit false
/-! Data layer: defs as values, small things. -/
namespace DL
open PySem PySem.Spec PyProof.Rows L2
section
variable {X : Cx} {W : WX} {pos p : Pos} {k n : Nat}
theorem Env1.u10 (h : Env1 X k) : X.A.units + 10 < cLine := by have := h.room.un; omega
theorem Env1.u12 (h : Env1 X k) : X.A.units + 12 < cLine := by have := h.room.un; omega
theorem pd_fnv {x : Str} {m : Mir} (F : Fn X.prog X.w X.K X.mg X.base x n k m) (hg : Gl X x := by rfl) (hd : (x == ("__debug__" : Str)) = false := by decide) : PD X W (.Name x pos) (rC (.fn x)) := by
  obtain ⟨f, fd, ps, h1, _⟩ := F.ex
  exact pd_c (v := .ref f) (pe_glob hg h1 rfl hd) fun _ _ => .fn h1
def Hall (X : Cx) (n : Nat) (ms : List (Str × Mir)) : Prop := ∀ y m, ms.lookup y = some m → ∃ k, Fn X.prog X.w X.K X.mg X.base y n k m ∧ Room k X.A
theorem hall_nil : Hall X n [] := fun y m h => by cases h
theorem hall_cons {x : Str} {m : Mir} {ms : List (Str × Mir)} (F : Fn X.prog X.w X.K X.mg X.base x n k m) (R : Room k X.A) (h : Hall X n ms) : Hall X n ((x, m) :: ms) := fun y m' e => by
  rw [List.lookup_cons] at e
  cases q : y == x with
  | true =>
    rw [q] at e
    cases e
    have := eq_of_beq q
    subst this
    exact ⟨k, F, R⟩
  | false => rw [q] at e; exact h y m' e
end
/-! ### a def that leaves what it made in the store -/
def mDefK (n : Nat) (b : RS) : Mir := fun ds S => match b (ds.map some ++ List.replicate (n - ds.length) none) S with
  | .rt d S1 => .ok d S1
  | .nx _ S1 => .ok .non S1
  | .err c fs _ S1 => .err c fs S1
  | _ => .stuck
theorem fn_okK {P : Program} {w : World} {K : Fg} {mg : Str → Option Value} {base : Heap} {x qual : Str} {st : Stmt} {f : Addr} {fd : FuncData} {N ps : List Str} {k : Nat} {r : RS} (Fu : Fun K x qual st f fd) (Sc : FnScope N ps (defScope st))
    (hbody : ∀ (cdv : Value) (A : Around) (outer : List Env) (s : Shared) (H : Hp) (E : XK), Room k (A.deeper (envOfC qual (defScope st) s.heap.objs.size f cdv)) → A.guards = some [] → PSds (cxOf (L2.CX P w) P w K mg base N qual (defScope st) f cdv A outer s H E) (fun cls d _ H => E cls d H) (defBody st) r) :
    FnG P w K mg base (k + 1) f fd ps (spD w K mg ps.length (mDefK N.length r)) := by
  refine fn_G Fu Sc (fun vs H Q E h => h.1) fun cdv A outer s H vs Q E hr hG h => ?_
  obtain ⟨hl, α, F, S, ds, h1, h2, h3⟩ := h
  obtain ⟨t, pt, st⟩ := (hbody cdv A outer s H E hr hG).ex
  refine ⟨t, pt, st α F _ H _ S _ h1 (slots_start h2) ?_⟩
  have h3 : wp w K mg α F H (relD w K mg) (mDefK N.length r ds S) Q E := h3
  unfold mDefK at h3
  cases q : r (ds.map some ++ List.replicate (N.length - ds.length) none) S with
  | nx δ S1 =>
    rw [q] at h3
    intro σ' H' β F' r1 s1 _
    exact h3 .non H' β F' r1 s1 .non
  | rt d S1 =>
    rw [q] at h3
    exact h3
  | err c fs δ S1 =>
    rw [q] at h3
    intro cls dd σ' H' β F' r1 s1 _ he
    exact h3 cls dd H' β F' r1 s1 he
  | bk δ S1 => rw [q] at h3; exact h3.elim
  | ct δ S1 => rw [q] at h3; exact h3.elim
  | stuck => rw [q] at h3; exact h3.elim
theorem fn_mkK {P : Program} {w : World} {K : Fg} {mg : Str → Option Value} {base : Heap} {x : Str} {st : Stmt} {N ps : List Str} {k : Nat} {r : RS} (Fu : Fd K mg x st ps) (Sc : FnScope N ps (defScope st))
    (hbody : ∀ (f : Addr) (cdv : Value) (A : Around) (outer : List Env) (s : Shared) (H : Hp) (E : XK), Env1 (cxOf (L2.CX P w) P w K mg base N x (defScope st) f cdv A outer s H E) k → Takes (cxOf (L2.CX P w) P w K mg base N x (defScope st) f cdv A outer s H E) (fun cls d _ H => E cls d H) →
      PSds (cxOf (L2.CX P w) P w K mg base N x (defScope st) f cdv A outer s H E) (fun cls d _ H => E cls d H) (defBody st) r) : Fn P w K mg base x ps.length (k + 1) (mDefK N.length r) := by
  obtain ⟨f, fd, h1, h2, h3⟩ := Fu.ex
  exact ⟨f, fd, ps, h2, h1.kp, h3, fn_okK h1 Sc fun cdv A outer s H E hr hG => hbody f cdv A outer s H E ⟨hr, hG, passes_of rfl⟩ (takes_of rfl rfl rfl rfl)⟩
section
variable {X : Cx} {pos : Pos} {k : Nat} {es : List Expr}
theorem plc_noT {vs : List Nat} {scope : Scope} {elt : Expr} {t : TGs} {u : List D → Sl → Sto → Res Sl} {re : RE} (hc : X.calm = true) (hg : ∀ (s : Shared) (H : Hp) (C : Addr) (cl : List (Str × Addr)) (fp : List Addr), PGxs (X.blk s H scope (compEnvC scope cl C X.env) fp) vs es t u)
    (he : ∀ (s : Shared) (H : Hp) (C : Addr) (cl : List (Str × Addr)) (fp : List Addr), PD (X.blk s H scope (compEnvC scope cl C X.env) fp) W0 elt re)
    (hn : ∀ (s : Shared) (H : Hp) (C : Addr) (cl : List (Str × Addr)) (fp : List Addr), (assignEach es (X.blk s H scope (compEnvC scope cl C X.env) fp).env).length = es.length := by intros; rfl)
    (hst : ∀ (s : Shared) (H : Hp) (C : Addr) (cl : List (Str × Addr)) (fp : List Addr), (assignEach es (X.blk s H scope (compEnvC scope cl C X.env) fp).env).findIdx? (·.1) = none := by intros; rfl) :
    PLc X vs scope (.Tuple es k pos) elt [] (L2.gTup X.K es.length t) tYes (gTup u) bYes re :=
  plc_no (fun s H C cl fp => pgx_tup (X := X.blk s H scope (compEnvC scope cl C X.env) fp) hc (hg s H C cl fp) (hn s H C cl fp) (hst s H C cl fp)) he
theorem plc_ifT {vs : List Nat} {scope : Scope} {elt c : Expr} {t : TGs} {u : List D → Sl → Sto → Res Sl} {bc : RB} {re : RE} (hca : X.calm = true) (hg : ∀ (s : Shared) (H : Hp) (C : Addr) (cl : List (Str × Addr)) (fp : List Addr), PGxs (X.blk s H scope (compEnvC scope cl C X.env) fp) vs es t u)
    (hc : ∀ (s : Shared) (H : Hp) (C : Addr) (cl : List (Str × Addr)) (fp : List Addr), PB (X.blk s H scope (compEnvC scope cl C X.env) fp) W0 c bc) (he : ∀ (s : Shared) (H : Hp) (C : Addr) (cl : List (Str × Addr)) (fp : List Addr), PD (X.blk s H scope (compEnvC scope cl C X.env) fp) W0 elt re)
    (hn : ∀ (s : Shared) (H : Hp) (C : Addr) (cl : List (Str × Addr)) (fp : List Addr), (assignEach es (X.blk s H scope (compEnvC scope cl C X.env) fp).env).length = es.length := by intros; rfl)
    (hst : ∀ (s : Shared) (H : Hp) (C : Addr) (cl : List (Str × Addr)) (fp : List Addr), (assignEach es (X.blk s H scope (compEnvC scope cl C X.env) fp).env).findIdx? (·.1) = none := by intros; rfl) :
    PLc X vs scope (.Tuple es k pos) elt [c] (L2.gTup X.K es.length t) (tCanB X.w X.K X.mg W0 bc) (gTup u) bc re :=
  plc_if (fun s H C cl fp => pgx_tup (X := X.blk s H scope (compEnvC scope cl C X.env) fp) hca (hg s H C cl fp) (hn s H C cl fp) (hst s H C cl fp)) hc he
end
/-! ### tests by cases, calls of nothing -/
def bIf (c a b : RB) : RB := fun δ S => (c δ S).bind fun k S1 => if k then a δ S1 else b δ S1
section
variable {X : Cx} {W : WX} {a b c : Expr} {ba bb bc : RB} {pos p : Pos}
theorem pt_ifx {tc ta tb : TT} (hc : PT X c tc) (ha : PT X a ta) (hb : PT X b tb) : PT X (.IfExp c a b pos) (fun σ H Q => tc σ H fun k H1 => if k = true then ta σ H1 Q else tb σ H1 Q) := by
  refine ⟨fun pins s σ H Q I h => ?_⟩
  unfold PySem.isTrue
  refine wpAny_bind (thn (hc.run pins s σ H _ I h) fun k s1 ⟨H1, I1, q1⟩ => ?_)
  cases k with
  | true => exact ha.run pins s1 σ H1 Q I1 q1
  | false => exact hb.run pins s1 σ H1 Q I1 q1
theorem pb_ifx (hc : PB X W c bc) (ha : PB X W a ba) (hb : PB X W b bb) : PB X W (.IfExp c a b pos) (bIf bc ba bb) := by
  obtain ⟨tc, pc, sc⟩ := hc.ex
  obtain ⟨ta, pa, sa⟩ := ha.ex
  obtain ⟨tb, pb, sb⟩ := hb.ex
  refine ⟨_, pt_ifx pc pa pb, fun α F σ H δ S Q hr hs h => ?_⟩
  refine sc α F σ H δ S _ hr hs (wp.bind h fun d S1 _ x H1 β F1 r1 q1 v1 h1 => ?_)
  have e : x = d := v1
  subst e
  cases x with
  | true => exact sa (α ++ β) F1 σ H1 δ S1 Q r1 (hs.mono q1.sub) h1
  | false => exact sb (α ++ β) F1 σ H1 δ S1 Q r1 (hs.mono q1.sub) h1
theorem pd_fn0 {x : Str} {m : Mir} {k : Nat} (F : Fn X.prog X.w X.K X.mg X.base x 0 k m) (hr : Room k X.A) (hG : X.A.guards = some []) (tk : Takes X W) (hg : Gl X x := by rfl) (hdb : (x == ("__debug__" : Str)) = false := by decide) : PD X W (.Call (.Name x p) [] [] pos) (rCall m rNil) := by
  obtain ⟨f, fd, ps, h1, h2, h3, h4⟩ := F.ex
  refine ⟨tCallS (spD X.w X.K X.mg 0 m) (WE W) tNil, ⟨fun pins s σ H Q I h => wpAny_Call_Name_kw (ld_glob I hg h1 ?_ hdb)⟩, fun α F σ H δ S Q hr hs h => ?_⟩
  · exact PySem.W.callWith_K0 I.kIn h2 (h4.call hr hG h3 tk I .nil h)
  · exact ⟨rfl, α, F, S, [], hr, .nil, h⟩
end
end DL

set_option Elab.async false
set_option linter.all false
set_option maxRecDepth 100000
set_option maxHeartbeats 4000000
set_option autoImplicit false
/-! Data layer: repr of data with numbers of up to 4300 figures. -/
namespace DL
open PySem PySem.Spec PyProof.Rows L2

mutual
def showW : PyData → Bool
  | .none => true
  | .bool _ => true
  | .str _ => true
  | .int i => decide (i.natAbs < 10 ^ 4300)
  | .list xs => showWs xs
  | .tuple xs => showWs xs
  | .dict _ => false
def showWs : List PyData → Bool
  | [] => true
  | x :: r => showW x && showWs r
end
section
variable {prog : Program} {w : World} {h₀ : Heap}
theorem call_int_reprW {A : Around} {E : Value → Shared → Prop} {s : Shared} {a : Int} {t : Tok} {Q : Value → Shared → Prop} (hn : s.heap.NoDigits) (ha : a.natAbs < 10 ^ 4300) (h : Q (.str (toString a) s.toks) { s with toks := s.toks + 1 }) : wpAny (model prog w) A (call (.builtin "int.__repr__") [.int a t]) Q E s := by
  refine wpAny_call_entry PySem.F.slot_int_repr (typeIs_int s a t) PySem.F.entry_int_repr ?_ (PySem.F.args_int_repr_1 _)
  unfold Builtin.«int.__repr__»
  show wpAny _ _ (do let r ← Builtin.overDigitLimit? a; _) _ _ s
  refine wpAny_bind (overDigitLimit_any hn (fun hlt => ?_) (fun hge => absurd ha (Nat.not_lt.mpr hge)))
  exact wpAny_bind (wpAny_mkStr (wpAny_pure ⟨_, rfl, h⟩) (int_text_fits10 hlt))
theorem reprK_int {as : List Addr} {d : Nat} {a : Int} {t : Tok} (hn : h₀.NoDigits) (ha : a.natAbs < 10 ^ 4300) : ReprK prog w as h₀ d (.int a t) (toString a) := by
  intro base hb A g E s Q hg hcl hu hk0 hQ
  rw [pyReprUnder_leaf (v := .int a t) (by omega) (fun _ e => nomatch e)]
  unfold pyRepr
  refine wpAny_bind (wpAny_pyReprObj_slot (by omega) (typeIs_int s a t) PySem.F.slot_int_repr.toG (call_int_reprW (hn.keeps hk0) ha ⟨_, _, rfl, wpAny_pure (hQ s.heap _ fun _ _ e => e)⟩))
mutual
theorem reprK_reads (hn : h₀.NoDigits) : ∀ {v : Value} {d : PyData} {as : List Addr}, Reads h₀ v d as → showW d = true → d.shown.length ≤ sizeLine → ∃ bs, ReadAtMost h₀ d.depth bs ∧ ReprK prog w bs h₀ d.depth v d.shown
  | _, _, _, .none, _, _ => ⟨[], (fun _ h => nomatch h), by simp only [PyData.shown]; exact .of_is ReprIs.none _ _ _⟩
  | _, _, _, .bool b, _, _ => ⟨[], (fun _ h => nomatch h), by simp only [PyData.shown]; exact .of_is (ReprIs.bool b) _ _ _⟩
  | _, _, _, .int i t, hs, _ => ⟨[], (fun _ h => nomatch h), by simp only [PyData.shown]; exact reprK_int hn (of_decide_eq_true (by unfold showW at hs; exact hs))⟩
  | _, _, _, .str x t, _, hz => ⟨[], (fun _ h => nomatch h), by simp only [PyData.shown]; exact .of_is (ReprIs.str x t (by simpa only [PyData.shown] using hz)) _ _ _⟩
  | _, _, _, .list (a := a) (vs := vs) (xs := xs) h1 h2 h3 h4, hs, hz => by
    have hz' : (listText (PyData.shownAll xs)).length ≤ sizeLine := by simpa only [PyData.shown] using hz
    unfold showW at hs
    obtain ⟨bs, hb, hk⟩ := reprAllK_reads hn h4 hs (fun t ht => Nat.le_trans (listText_mem_le ht) hz')
    have r : Reads h₀ (.ref a) (.list xs) _ := .list h1 h2 h3 h4
    have hna : a ∉ bs := not_mem_of_deeper r (by simp only [PyData.depth]; omega) hb
    refine ⟨a :: bs, ReadAtMost.cons r (by simp only [PyData.depth]; omega) hb, ?_⟩
    simp only [PyData.depth, PyData.shown]
    obtain ⟨l⟩ := vs
    cases l with
    | nil =>
      have h4' : ReadsAll h₀ [] xs _ := h4
      cases h4'
      simp only [PyData.shownAll, listText_nil]
      exact ReprK.listEmpty h1 h2 h3
    | cons x l => exact ReprK.list h1 h2 h3 hna (by simpa using hk.length_eq) (fun i y e => hk.item i y (by simpa using e))
  | _, _, _, .tuple (a := a) (xs := xs) h1 h2 h3 h4, hs, hz => by
    have hz' : (tupleText (PyData.shownAll xs)).length ≤ sizeLine := by simpa only [PyData.shown] using hz
    unfold showW at hs
    obtain ⟨bs, hb, hk⟩ := reprAllK_reads hn h4 hs (fun t ht => Nat.le_trans (tupleText_mem_le ht) hz')
    have r : Reads h₀ (.ref a) (.tuple xs) _ := .tuple h1 h2 h3 h4
    have hna : a ∉ bs := not_mem_of_deeper r (by simp only [PyData.depth]; omega) hb
    refine ⟨a :: bs, ReadAtMost.cons r (by simp only [PyData.depth]; omega) hb, ?_⟩
    simp only [PyData.depth, PyData.shown]
    exact ReprK.tuple h1 h2 h3 hna hk
  | _, _, _, .dict _ _ _ _ _, hs, _ => by unfold showW at hs; cases hs
theorem reprAllK_reads (hn : h₀.NoDigits) : ∀ {vs : List Value} {ds : List PyData} {as : List Addr}, ReadsAll h₀ vs ds as → showWs ds = true → (∀ t ∈ PyData.shownAll ds, t.length ≤ sizeLine) →
    ∃ bs, ReadAtMost h₀ (PyData.depthAll ds) bs ∧ ReprAllK prog w bs h₀ (PyData.depthAll ds) vs (PyData.shownAll ds)
  | _, _, _, .nil, _, _ => ⟨[], (fun _ h => nomatch h), by simp only [PyData.shownAll]; exact .nil⟩
  | _, _, _, .cons (d := d) (ds := ds) r rs, hs, hz => by
    unfold showWs at hs
    rw [Bool.and_eq_true] at hs
    obtain ⟨b1, hb1, k1⟩ := reprK_reads hn r hs.1 (hz _ (by simp only [PyData.shownAll]; exact List.mem_cons_self ..))
    obtain ⟨b2, hb2, k2⟩ := reprAllK_reads hn rs hs.2 (fun t ht => hz t (by simp only [PyData.shownAll]; exact List.mem_cons_of_mem _ ht))
    refine ⟨b1 ++ b2, ?_, ?_⟩
    · intro b hm
      simp only [PyData.depthAll]
      rcases List.mem_append.mp hm with hm | hm
      · obtain ⟨d', as', r', hd'⟩ := hb1 b hm
        exact ⟨d', as', r', Nat.le_trans hd' (Nat.le_max_left _ _)⟩
      · obtain ⟨d', as', r', hd'⟩ := hb2 b hm
        exact ⟨d', as', r', Nat.le_trans hd' (Nat.le_max_right _ _)⟩
    · simp only [PyData.depthAll, PyData.shownAll]
      exact .cons ((k1.more fun b hb => List.mem_append_left _ hb).level_le (Nat.le_max_left _ _)) (k2.more_le (fun b hb => List.mem_append_right _ hb) (Nat.le_max_right _ _))
end
theorem repr_of_readsW {a : Addr} {d : PyData} {as : List Addr} {A : Around} {E : Value → Shared → Prop} {s : Shared} {Q : Value → Shared → Prop} (hn : h₀.NoDigits) (r : Reads h₀ (.ref a) d as) (hs : showW d = true) (hg : A.guards = some []) (hu : A.units + (d.depth + 1) < cLine) (hk0 : ∀ b o, h₀.get? b = some o → s.heap.get? b = some o)
    (hQ : ∀ h' u tk, (∀ b o, s.heap.get? b = some o → h'.get? b = some o) → Q (.str d.shown u) { s with heap := h', toks := tk })
    (hsz : d.shown.length ≤ sizeLine) : wpAny (model prog w) A (call (.builtin "repr") [.ref a]) Q E s := by
  cases r with
  | list h1 h2 h3 h4 =>
    rename_i o vs n xs bs₀
    have hz' : (listText (PyData.shownAll xs)).length ≤ sizeLine := by simpa only [PyData.shown] using hsz
    unfold showW at hs
    obtain ⟨bs, hb, hk⟩ := reprAllK_reads (prog := prog) (w := w) hn h4 hs (fun t ht => Nat.le_trans (listText_mem_le ht) hz')
    have hna : a ∉ bs := not_mem_of_deeper (.list h1 h2 h3 h4) (by simp only [PyData.depth]; omega) hb
    refine call_repr_slot (by omega) ⟨o, hk0 _ _ h1, h2⟩ PySem.F.slot_list_repr.toG ?_
    simp only [PyData.depth] at hu
    simp only [PyData.shown] at hQ
    obtain ⟨l⟩ := vs
    cases l with
    | nil =>
      have h4' : ReadsAll h₀ [] xs _ := h4
      cases h4'
      simp only [PyData.shownAll, listText_nil] at hQ
      exact call_list_repr_empty ⟨o, hk0 _ _ h1, h2⟩ (hk0 _ _ h1) h3 ⟨_, _, rfl, hQ s.heap _ _ fun _ _ e => e⟩
    | cons x l =>
      exact call_list_reprK h1 h2 h3 hna (by simpa using hk.length_eq) (fun i y e => hk.item i y (by simpa using e)) (show A.in1.guards = some [] from hg) (fun b _ => Clear.nil b) (by show A.units + 1 + _ < cLine; omega) hk0 (fun h' u tk hk => ⟨_, _, rfl, hQ h' u tk hk⟩) hz'
  | tuple h1 h2 h3 h4 =>
    rename_i o vs n xs
    have hz' : (tupleText (PyData.shownAll xs)).length ≤ sizeLine := by simpa only [PyData.shown] using hsz
    unfold showW at hs
    obtain ⟨bs, hb, hk⟩ := reprAllK_reads (prog := prog) (w := w) hn h4 hs (fun t ht => Nat.le_trans (tupleText_mem_le ht) hz')
    have hna : a ∉ bs := not_mem_of_deeper (.tuple h1 h2 h3 h4) (by simp only [PyData.depth]; omega) hb
    refine call_repr_slot (by omega) ⟨o, hk0 _ _ h1, h2⟩ PySem.F.slot_tuple_repr ?_
    simp only [PyData.depth] at hu
    simp only [PyData.shown] at hQ
    exact call_tuple_reprK h1 h2 h3 hna hk (show A.in1.guards = some [] from hg) (fun b _ => Clear.nil b) (by show A.units + 1 + _ < cLine; omega) hk0 (fun h' u tk hk => ⟨_, _, rfl, hQ h' u tk hk⟩) hz'
  | dict _ _ _ _ _ => unfold showW at hs; cases hs
end
def NoDig (K : Fg) : Prop := PySem.W.nsIn K cStatics "sys.int_max_str_digits" = some none
section
variable {X : Cx} {pins : List (Addr × Obj)} {σ : L2.St} {H : Hp} {s : Shared}
theorem nodig (I : Inv X pins σ H s) (hd : NoDig X.K) : s.heap.NoDigits := by
  obtain ⟨mc, hns, _⟩ := I.nolimit
  refine ⟨mc, hns, ?_⟩
  obtain ⟨o, es, ep, ho, hda, _, hf⟩ := hns
  have e : PySem.W.nsIn X.K cStatics "sys.int_max_str_digits" = some none := hd
  unfold PySem.W.nsIn at e
  split at e
  · rename_i c d es' n' sl q
    have := I.kIn _ _ q
    rw [ho] at this
    cases this
    cases hda
    split at e
    · cases e
    · rename_i he
      rw [← hf]
      unfold nsFind findBy
      rw [← Array.find?_toList, he]
      rfl
  · cases e
theorem repr_okW (hG : X.A.guards = some []) (hu : X.A.units + 80 < cLine) (hd : NoDig X.K) : CallR X (.builtin "repr") (fun xs H Q => ∃ x d, xs = [x] ∧ Dp X.K H x d ∧ showW d = true ∧ d.depth ≤ 64 ∧ d.shown.length ≤ sizeLine ∧ Q (.str d.shown) H) := by
  intro pins s σ H xs us Q I rv h
  obtain ⟨x, d, rfl, hdp, h1, h2, h3, q⟩ := h
  obtain ⟨u, rfl, rx⟩ := vals1 rv
  have done : ∀ h' t tk, (∀ b o, s.heap.get? b = some o → h'.get? b = some o) → EP X pins σ Q (.str d.shown t) { s with heap := h', toks := tk } := fun h' t tk k => ⟨.str _, H, I.kept (t' := tk) k, ⟨_, rfl⟩, q⟩
  obtain ⟨as, r⟩ := Dp.reads I d x u hdp rx
  cases hdp with
  | non => cases rx; exact P.repr_of_none (done s.heap _ _ fun _ _ e => e)
  | bl b => cases rx; exact P.repr_of_bool (done s.heap _ _ fun _ _ e => e)
  | int i =>
    obtain ⟨t, rfl⟩ := rx
    exact call_repr_slot (by omega) (typeIs_int s i t) PySem.F.slot_int_repr.toG (call_int_reprW (nodig I hd) (of_decide_eq_true (by unfold showW at h1; exact h1)) ⟨_, _, rfl, by simpa only [PyData.shown] using done s.heap s.toks (s.toks + 1) fun _ _ e => e⟩)
  | str z => obtain ⟨t, rfl⟩ := rx; exact P.repr_of_str (by simpa [PyData.shown] using done s.heap s.toks (s.toks + 1) fun _ _ e => e) (by simpa [PyData.shown] using h3)
  | lst _ _ => cases rx; exact repr_of_readsW (nodig I hd) r h1 hG (by omega) (fun _ _ e => e) (fun h' u tk k => done h' u tk k) h3
  | tup _ _ => cases rx; exact repr_of_readsW (nodig I hd) r h1 hG (by omega) (fun _ _ e => e) (fun h' u tk k => done h' u tk k) h3
def gReprW : Sto → List D → Option D := fun S ds => match ds with
  | [d] => (match toPy S (deref S d) with
    | some x => if showW x && decide (x.depth ≤ 64) && decide (x.shown.length ≤ sizeLine) then some (.str x.shown) else none
    | none => gRepr S [d])
  | _ => none
theorem b_reprW (hG : X.A.guards = some []) (hu : X.A.units + 80 < cLine) (hd : NoDig X.K) : BiG X (.builtin "repr") gReprW := by
  obtain ⟨r, h1, h2⟩ := (b_repr hG hu).ex
  refine ⟨_, (repr_okW hG hu hd).or h1, fun α F H S xs ds z Q hr hv hz q => ?_⟩
  unfold gReprW at hz
  split at hz
  · rename_i d
    split at hz
    · rename_i x e
      split at hz
      · rename_i hc
        rw [Bool.and_eq_true, Bool.and_eq_true] at hc
        cases hz
        cases hv with
        | cons g1 g2 =>
          cases g2
          exact .inl ⟨_, x, rfl, hr.dp g1 e, hc.1.1, of_decide_eq_true hc.1.2, of_decide_eq_true hc.2, fin_now hr (.str _) q⟩
      · cases hz
    · exact .inr (h2 α F H S xs [d] z Q hr hv hz q)
  · cases hz
end
end DL

set_option Elab.async false
set_option linter.all false
set_option maxRecDepth 100000
set_option maxHeartbeats 4000000
set_option autoImplicit false
/-! The head's hook, with what the interpreter's own table lacks. -/
namespace DL
open PySem PySem.Spec PyProof.Rows L2
def digB (K : Fg) : Bool := decide (PySem.W.nsIn K cStatics "sys.int_max_str_digits" = some none)
def obsS (fa : List He.Fa) (fn : List He.DefD) (K : Fg) : He.AlD := (digB K && (He.obsD fa fn K).1, (He.obsD fa fn K).2)
def SaysS (fa : List He.Fa) (fn : List He.DefD) (K : Fg) : Prop := obsS fa fn K = He.valD fn
def obsSG (n : Nat) (fa : List He.Fa) (fn : List He.DefD) (g : Addr → Option Obj) : He.AlD := obsS fa fn (He.frG g (He.asD g n ++ [cStatics]))
def hookS (n : Nat) (fa : List He.Fa) (fn : List He.DefD) : PySem.W.Hook where
  α := He.AlD
  obs := fun s => obsSG n fa fn s.heap.get?
  val := fun _ => He.valD fn
  says := fun _ h => ∃ K : Fg, K.In h ∧ SaysS fa fn K
  of := fun _ _ e => ⟨_, He.frG_in, e⟩
  keeps := fun _ _ _ ⟨K, hK, c⟩ k => ⟨K, PySem.W.Frag.In.keeps hK k, c⟩
theorem obsSG_eq {n : Nat} {fa : List He.Fa} {fn : List He.DefD} {g : Addr → Option Obj} {s : Shared} (h : ∀ a, g a = s.heap.get? a) : obsSG n fa fn g = (hookS n fa fn).obs s := by
  have e : g = s.heap.get? := funext h
  rw [e] <;> rfl
theorem SaysS.both {fa : List He.Fa} {fn : List He.DefD} {K : Fg} (h : SaysS fa fn K) : He.SaysD fa fn K ∧ NoDig K := by
  have h0 : obsS fa fn K = He.valD fn := h
  have h1 : (digB K && (He.obsD fa fn K).1) = true := congrArg (fun z : He.AlD => z.1) h0
  have h2 : (obsS fa fn K).2 = (He.valD fn).2 := congrArg (fun z : He.AlD => z.2) h0
  rw [Bool.and_eq_true] at h1
  refine ⟨?_, ?_⟩
  · show He.obsD fa fn K = He.valD fn
    exact Prod.ext h1.2 h2
  · have h3 := h1.1
    unfold digB at h3
    unfold NoDig
    exact of_decide_eq_true h3
end DL

set_option Elab.async false
set_option linter.all false
set_option maxRecDepth 100000
set_option maxHeartbeats 4000000
set_option autoImplicit false
/-! Plain part: the wider operations. -/
namespace DL
open PySem L2
section
variable {S : Sto} {i j : Int} {x y : Str} {Q : D → Sto → Prop} {QL : List D → Sto → Prop} {QB : Bool → Sto → Prop} {δ : Sl} {N B C : Sl → Sto → Prop} {T : D → Sto → Prop}
theorem o_ltU (h : Q (.bl (decide (i < j))) S) : (Res.lift (gLtU S (.int i) (.int j)) S).post Q := h
theorem o_leU (h : Q (.bl (decide (i ≤ j))) S) : (Res.lift (gLeU S (.int i) (.int j)) S).post Q := h
theorem o_gtU (h : Q (.bl (decide (j < i))) S) : (Res.lift (gGtU S (.int i) (.int j)) S).post Q := h
theorem o_geU (h : Q (.bl (decide (j ≤ i))) S) : (Res.lift (gGeU S (.int i) (.int j)) S).post Q := h
/-- texts, by their signs -/
def ltS (x y : Str) : Bool := decide (x.cps.toList < y.cps.toList)
theorem two_str : twoD S (.str x) (.str y) = some (.str x, .str y) := by
  unfold twoD deref toPy
  dsimp only
  rw [if_pos (by simp [PySem.W.alike, notNone, PyData.depth])]
theorem o_ltS (h : Q (.bl (ltS x y)) S) : (Res.lift (gLtU S (.str x) (.str y)) S).post Q := p_lift (by
  unfold gLtU
  dsimp only
  rw [two_str]
  show some (D.bl (PySem.W.dataLt (.str x) (.str y))) = _
  rw [PySem.W.dataLt_str]
  rfl) h
theorem o_two {d e : D} {u v : PyData} (h : twoD S d e = some (u, v)) (hd : ∀ i, d ≠ .int i) (q : Q (.bl (PySem.W.dataLt u v)) S) : (Res.lift (gLtU S d e) S).post Q := p_lift (by
  unfold gLtU
  split
  · exact absurd rfl (hd _)
  · rw [h]; rfl) q
theorem o_twoG {d e : D} {u v : PyData} (h : twoD S d e = some (u, v)) (hd : ∀ i, d ≠ .int i) (q : Q (.bl (!PySem.W.dataLt u v)) S) : (Res.lift (gGeU S d e) S).post Q := p_lift (by
  unfold gGeU
  split
  · exact absurd rfl (hd _)
  · rw [h]; rfl) q
theorem p_zipA {a : RA} (h : (a δ S).post fun xs S1 => (∃ ds es, xs = [.lst ds, .lst es] ∧ QL (zipD ds es) S1) ∨ ∃ ds es, xs = [.tup ds, .tup es] ∧ QL (zipD ds es) S1) : (rZipA a δ S).post QL :=
  p_bind (h.mono fun xs S1 q => by rcases q with ⟨ds, es, e, q⟩ | ⟨ds, es, e, q⟩ <;> subst e <;> exact q)
theorem p_cutT {a : RE} {l h : RO} (q : (a δ S).post fun x S1 => (l δ S1).post fun i S2 => (h δ S2).post fun j S3 => ∃ z, x = .tup z ∧ Q (.tup (cutD z i j)) S3) : (rCut a l h δ S).post Q :=
  p_bind (q.mono fun x S1 q => p_bind (q.mono fun i S2 q => p_bind (q.mono fun j S3 ⟨z, e, q'⟩ => by
    subst e
    exact q')))
theorem p_bif {c a b : RB} (h : (c δ S).post fun k S1 => (k = true → (a δ S1).post QB) ∧ (k = false → (b δ S1).post QB)) : (bIf c a b δ S).post QB := p_bind (h.mono fun k _ q => by
  cases k with
  | true => exact q.1 rfl
  | false => exact q.2 rfl)
theorem p_callV {k : Nat} {ms : List (Str × Mir)} {a : RA} {z : Str} {m : Mir} (e : δ[k]? = some (some (.fn z))) (hm : ms.lookup z = some m) (h : (a δ S).post fun xs S1 => (m xs S1).post Q) : (rCallV k ms a δ S).post Q := by
  unfold rCallV
  rw [e]
  dsimp only
  rw [hm]
  exact p_bind h
theorem o_lenT {xs : List D} (q : Q (.int xs.length) S) : (Res.lift (gLen S [.tup xs]) S).post Q := q
theorem o_lenL {xs : List D} (q : Q (.int xs.length) S) : (Res.lift (gLen S [.lst xs]) S).post Q := q
theorem s_gtux {u : List D → Sl → Sto → Res Sl} {ds : List D} {QS : Sl → Sto → Prop} (h : (u ds δ S).post QS) : (gTup u (.tux ds) δ S).post QS := h
theorem atI_0 {a : D} {r : List D} : atI (a :: r) 0 = some a := by unfold atI ixN; simp
theorem atI_1 {a b : D} {r : List D} : atI (a :: b :: r) 1 = some b := by
  unfold atI ixN
  simp
  rw [if_pos (by omega)]
  rfl
theorem atI_2 {a b c : D} {r : List D} : atI (a :: b :: c :: r) 2 = some c := by
  unfold atI ixN
  simp
  rw [if_pos (by omega)]
  rfl
theorem cut1 {A : Type} (xs : List A) : cutD xs (some 1) none = xs.drop 1 := by
  unfold cutD
  rw [show HT.sIx xs.length 0 (some 1) = min 1 xs.length from HT.sIx_nat _ _ 1, HT.sIx_none]
  rcases xs with _ | ⟨a, r⟩
  · rfl
  · simp
theorem asInts_map : ∀ ns : List Int, asInts (ns.map .int) = some ns
  | [] => rfl
  | b :: r => by unfold List.map asInts; rw [asInts_map r]; rfl
theorem o_sumI {ns : List Int} (h : Q (.int ns.sum) S) : (Res.lift (gSum S [.lst (ns.map .int)]) S).post Q := p_lift (by unfold gSum deref; dsimp only; rw [asInts_map]; rfl) h
end
/-- a comprehension that leaves the store: what each turn gives -/
theorem lcL_gen {g : RG} {t : RB} {e : RE} {f : D → Option D} {δ : Sl} {S : Sto} : ∀ {xs : List D}, (∀ x ∈ xs, ∃ δ1, g x δ S = .ok δ1 S ∧ ((f x = none ∧ t δ1 S = .ok false S) ∨ ∃ y, f x = some y ∧ t δ1 S = .ok true S ∧ e δ1 S = .ok y S)) → lcL g t e xs δ S = .ok (xs.filterMap f) S
  | [], _ => rfl
  | x :: xs, h => by
    have ih := lcL_gen (g := g) (t := t) (e := e) (f := f) (δ := δ) (S := S) (xs := xs) fun y hy => h y (List.mem_cons_of_mem _ hy)
    obtain ⟨δ1, h1, h2⟩ := h x List.mem_cons_self
    unfold lcL
    rw [h1]
    show (t δ1 S).bind _ = _
    rw [List.filterMap_cons]
    rcases h2 with ⟨e1, e2⟩ | ⟨y, e1, e2, e3⟩
    · rw [e2, e1]
      exact ih
    · rw [e2, e1]
      show (e δ1 S).bind _ = _
      rw [e3]
      show (lcL g t e xs δ S).bind _ = _
      rw [ih]
      rfl
end DL

set_option Elab.async false
set_option linter.all false
set_option maxRecDepth 100000
set_option maxHeartbeats 4000000
set_option autoImplicit false
/-! Plain part: how long a repr is, and of which signs. -/
namespace DL
open PySem L2
def OkS (x : Str) : Prop := ∀ c ∈ x.cps.toList, c < 0x110000
theorem okS_ok {x : Str} (h : OkS x) : PyData.strOk x = true := by
  unfold PyData.strOk
  rw [Array.all_eq_true']
  intro c hc
  exact decide_eq_true (h c (by simpa using hc))
theorem ok_okS {x : Str} (h : PyData.strOk x = true) : OkS x := fun c hc => by
  unfold PyData.strOk at h
  rw [Array.all_eq_true'] at h
  exact of_decide_eq_true (h c (by simpa using hc))
theorem okS_app {x y : Str} (h : OkS x) (g : OkS y) : OkS (x ++ y) := fun c hc => by
  have e : (x ++ y).cps.toList = x.cps.toList ++ y.cps.toList := by
    show (x.cps ++ y.cps).toList = _
    simp
  rw [e] at hc
  exact (List.mem_append.mp hc).elim (h c) (g c)
theorem char_lt (c : Char) : c.toNat < 0x110000 := by
  have := c.valid
  rcases this with h | ⟨_, h⟩
  · have h' : c.toNat < 0xd800 := h
    omega
  · exact h
theorem okS_of (s : String) : OkS (Str.ofString s) := fun c hc => by
  rw [Str.ofString_eq_toList] at hc
  have hc' : c ∈ s.toList.map Char.toNat := by simpa using hc
  obtain ⟨k, _, rfl⟩ := List.mem_map.mp hc'
  exact char_lt k
theorem okS_join {sep : Str} (hs : OkS sep) : ∀ {ts : List Str}, (∀ t ∈ ts, OkS t) → OkS (Str.join sep ts)
  | [], _ => fun c hc => by cases hc
  | [x], h => h x List.mem_cons_self
  | x :: y :: r, h => okS_app (okS_app (h x List.mem_cons_self) hs) (okS_join hs (ts := y :: r) fun t ht => h t (List.mem_cons_of_mem _ ht))
theorem fold_app (f : Nat → List Nat) : ∀ (l : List Nat) (acc : Array Nat), (l.foldl (fun out c => out ++ (f c).toArray) acc).toList = acc.toList ++ l.flatMap f
  | [], acc => by simp
  | c :: r, acc => by
    rw [List.foldl_cons, fold_app f r]
    simp
theorem reprChar_lt {q c : Nat} (hc : c < 0x110000) : ∀ z ∈ Builtin.Str.reprChar q c, z < 0x110000 := by
  intro z hz
  unfold Builtin.Str.reprChar at hz
  dsimp only at hz
  have dg : ∀ n : Nat, z ∈ List.replicate n 48 ++ (Nat.toDigits 16 c).map Char.toNat → z < 0x110000 := fun n h => by
    rcases List.mem_append.mp h with h | h
    · rw [(List.mem_replicate.mp h).2]; decide
    · obtain ⟨k, _, rfl⟩ := List.mem_map.mp h
      exact char_lt k
  have two : ∀ a b : Nat, a < 0x110000 → b < 0x110000 → z ∈ [a, b] → z < 0x110000 := fun a b ha hb h => by
    rcases List.mem_cons.mp h with rfl | h
    · exact ha
    · rw [List.mem_singleton.mp h]; exact hb
  split at hz
  · exact two _ _ (by decide) hc hz
  · split at hz
    · exact two _ _ (by decide) (by decide) hz
    · split at hz
      · exact two _ _ (by decide) (by decide) hz
      · split at hz
        · exact two _ _ (by decide) (by decide) hz
        · split at hz
          · rw [List.mem_singleton.mp hz]; exact hc
          · split at hz
            · rcases List.mem_append.mp hz with h | h
              · exact two _ _ (by decide) (by decide) h
              · exact dg _ h
            · split at hz
              · rcases List.mem_append.mp hz with h | h
                · exact two _ _ (by decide) (by decide) h
                · exact dg _ h
              · rcases List.mem_append.mp hz with h | h
                · exact two _ _ (by decide) (by decide) h
                · exact dg _ h
theorem okS_repr {x : Str} (h : OkS x) : OkS (reprText x) := by
  intro c hc
  have q : reprQuote x < 0x110000 := by
    unfold reprQuote
    split <;> decide
  unfold reprText at hc
  have hc' : c ∈ (x.cps.foldl (fun out c => out ++ (Builtin.Str.reprChar (reprQuote x) c).toArray) #[reprQuote x]).toList ++ [reprQuote x] := by simpa using hc
  rw [← Array.foldl_toList, fold_app] at hc'
  rcases List.mem_append.mp hc' with h1 | h1
  · rcases List.mem_append.mp h1 with h2 | h2
    · have : c = reprQuote x := by simpa using h2
      rw [this]; exact q
    · obtain ⟨z, hz, hz2⟩ := List.mem_flatMap.mp h2
      exact reprChar_lt (h z hz) c hz2
  · rw [List.mem_singleton.mp h1]; exact q
/-! ### data of bounded size -/
mutual
def fitP : PyData → Bool
  | .none => true
  | .bool _ => true
  | .int i => decide (i.natAbs < 10 ^ 1005)
  | .str x => PyData.strOk x
  | .list xs => fitPs xs
  | .tuple xs => fitPs xs
  | .dict _ => false
def fitPs : List PyData → Bool
  | [] => true
  | x :: r => fitP x && fitPs r
end
mutual
def wtP : PyData → Nat
  | .none => 4
  | .bool _ => 5
  | .int _ => 1006
  | .str x => 10 * x.length + 2
  | .list xs => 3 + wtPs xs
  | .tuple xs => 3 + wtPs xs
  | .dict _ => 0
def wtPs : List PyData → Nat
  | [] => 0
  | x :: r => wtP x + 2 + wtPs r
end
theorem join_len : ∀ ts : List Str, (Str.join (Str.ofString ", ") ts).length ≤ (ts.map fun t => t.length + 2).sum
  | [] => by show 0 ≤ _; exact Nat.zero_le _
  | [x] => by show x.length ≤ x.length + 2 + 0; omega
  | x :: y :: r => by
    have ih := join_len (y :: r)
    show (x ++ Str.ofString ", " ++ Str.join (Str.ofString ", ") (y :: r)).length ≤ x.length + 2 + ((y :: r).map fun t => t.length + 2).sum
    rw [strLen_append, strLen_append]
    have : (Str.ofString ", ").length = 2 := by decide +kernel
    omega
mutual
theorem shown_fit : ∀ {d : PyData}, fitP d = true → OkS d.shown ∧ d.shown.length ≤ wtP d ∧ showW d = true
  | .none, _ => by
    simp only [PyData.shown]
    exact ⟨okS_of _, by decide +kernel, by unfold showW; rfl⟩
  | .bool b, _ => by
    simp only [PyData.shown]
    refine ⟨by cases b <;> exact okS_of _, ?_, by unfold showW; rfl⟩
    cases b <;> decide +kernel
  | .int i, h => by
    unfold fitP at h
    have h := of_decide_eq_true h
    simp only [PyData.shown]
    refine ⟨okS_of _, ?_, ?_⟩
    · have := int_text_length_le10 (k := 1005) (by decide) h
      rw [ofString_length]
      unfold wtP
      omega
    · unfold showW
      exact decide_eq_true (Nat.lt_of_lt_of_le h (Nat.pow_le_pow_right (by decide) (by decide)))
  | .str x, h => by
    unfold fitP at h
    have hx := ok_okS h
    simp only [PyData.shown]
    refine ⟨okS_repr hx, ?_, by unfold showW; rfl⟩
    unfold wtP
    exact PySem.StrLaws.reprText_len x fun c hc => Nat.lt_of_lt_of_le (hx c hc) (by decide)
  | .list xs, h => by
    unfold fitP at h
    obtain ⟨h1, h2, h3⟩ := shown_fits h
    simp only [PyData.shown]
    rw [listText_eq_join]
    refine ⟨okS_app (okS_app (okS_of _) (okS_join (okS_of _) h1)) (okS_of _), ?_, by unfold showW; exact h3⟩
    rw [strLen_append, strLen_append]
    have e1 : (Str.ofString "[").length = 1 := by decide +kernel
    have e2 : (Str.ofString "]").length = 1 := by decide +kernel
    have e3 := join_len (PyData.shownAll xs)
    unfold wtP
    omega
  | .tuple xs, h => by
    unfold fitP at h
    obtain ⟨h1, h2, h3⟩ := shown_fits h
    simp only [PyData.shown]
    unfold tupleText
    refine ⟨okS_app (okS_app (okS_of _) (okS_join (okS_of _) h1)) (okS_of _), ?_, by unfold showW; exact h3⟩
    rw [strLen_append, strLen_append]
    have e1 : (Str.ofString "(").length = 1 := by decide +kernel
    have e2 : (Str.ofString (if (PyData.shownAll xs).length == 1 then ",)" else ")")).length ≤ 2 := by split <;> decide +kernel
    have e3 := join_len (PyData.shownAll xs)
    unfold wtP
    omega
  | .dict _, h => by unfold fitP at h; cases h
theorem shown_fits : ∀ {ds : List PyData}, fitPs ds = true → (∀ t ∈ PyData.shownAll ds, OkS t) ∧ ((PyData.shownAll ds).map fun t => t.length + 2).sum ≤ wtPs ds ∧ showWs ds = true
  | [], _ => by
    simp only [PyData.shownAll]
    exact ⟨(fun _ z => nomatch z), Nat.le_refl _, by unfold showWs; rfl⟩
  | d :: ds, h => by
    unfold fitPs at h
    rw [Bool.and_eq_true] at h
    obtain ⟨a1, a2, a3⟩ := shown_fit h.1
    obtain ⟨b1, b2, b3⟩ := shown_fits h.2
    simp only [PyData.shownAll]
    refine ⟨fun t ht => ?_, ?_, by unfold showWs; rw [a3, b3]; rfl⟩
    · rcases List.mem_cons.mp ht with rfl | ht
      · exact a1
      · exact b1 t ht
    · rw [List.map_cons, List.sum_cons]
      unfold wtPs
      omega
end
/-- repr of such data -/
theorem o_reprW {S : Sto} {d : D} {x : PyData} {Q : D → Sto → Prop} (e : toPy S (deref S d) = some x) (hf : fitP x = true) (hd : x.depth ≤ 64) (hw : wtP x ≤ sizeLine) (h : Q (.str x.shown) S) : (Res.lift (gReprW S [d]) S).post Q := p_lift (by
  obtain ⟨_, h2, h3⟩ := shown_fit hf
  unfold gReprW
  dsimp only
  rw [e]
  dsimp only
  rw [h3, decide_eq_true hd, decide_eq_true (Nat.le_trans h2 hw)]
  rfl) h
end DL

set_option Elab.async false
set_option linter.all false
set_option maxRecDepth 100000
set_option maxHeartbeats 4000000
set_option autoImplicit false
/-! Module's names that hold tuples. -/
namespace DL
open PySem PySem.Spec PyProof.Rows L2
mutual
def litB (K : Fg) : Nat → Value → D → Bool
  | _, .none, .non => true
  | _, .bool b, .bl c => decide (b = c)
  | _, .int i _, .int j => decide (i = j)
  | _, .str x _, .str y => decide (x = y)
  | n + 1, .ref a, .tup ds => (match K.lookup a with
    | some ⟨.type c, none, .seq us _, _⟩ => decide (c = "tuple") && (decide (us.size ≤ sizeLine) && litAll K n us.toList ds)
    | _ => false)
  | _, _, _ => false
def litAll (K : Fg) : Nat → List Value → List D → Bool
  | _, [], [] => true
  | n, u :: us, d :: ds => litB K n u d && litAll K n us ds
  | _, _, _ => false
end
section
variable {K : Fg} {w : World} {mg : Str → Option Value}
theorem litAll_of {n : Nat} (H : ∀ u d, litB K n u d = true → ∃ x, RelV x u ∧ ∀ F α, DV w K mg F α x d) : ∀ (us : List Value) (ds : List D), litAll K n us ds = true → ∃ xs, Vals xs us ∧ ∀ F α, DVs w K mg F α xs ds
  | [], [], _ => ⟨[], .nil, fun _ _ => .nil⟩
  | [], d :: ds, h => by unfold litAll at h; cases h
  | u :: us, [], h => by unfold litAll at h; cases h
  | u :: us, d :: ds, h => by
    unfold litAll at h
    rw [Bool.and_eq_true] at h
    obtain ⟨x, r1, h1⟩ := H u d h.1
    obtain ⟨xs, r2, h2⟩ := litAll_of H us ds h.2
    exact ⟨x :: xs, .cons r1 r2, fun F α => .cons (h1 F α) (h2 F α)⟩
theorem litB_ok : ∀ (n : Nat) (u : Value) (d : D), litB K n u d = true → ∃ x, RelV x u ∧ ∀ F α, DV w K mg F α x d := by
  intro n
  induction n with
  | zero =>
    intro u d h
    cases u <;> cases d <;> first
      | (unfold litB at h; exact absurd h Bool.false_ne_true)
      | exact ⟨.non, rfl, fun _ _ => .non⟩
      | (rename_i b c; unfold litB at h; have e : b = c := of_decide_eq_true h; subst e; exact ⟨.bl b, rfl, fun _ _ => .bl b⟩)
      | (rename_i i t j; unfold litB at h; have e : i = j := of_decide_eq_true h; subst e; exact ⟨.int i, ⟨t, rfl⟩, fun _ _ => .int i⟩)
      | (rename_i x t y; unfold litB at h; have e : x = y := of_decide_eq_true h; subst e; exact ⟨.str x, ⟨t, rfl⟩, fun _ _ => .str x⟩)
  | succ n ih =>
    intro u d h
    cases u <;> cases d <;> first
      | (unfold litB at h; exact absurd h Bool.false_ne_true)
      | exact ⟨.non, rfl, fun _ _ => .non⟩
      | (rename_i b c; unfold litB at h; have e : b = c := of_decide_eq_true h; subst e; exact ⟨.bl b, rfl, fun _ _ => .bl b⟩)
      | (rename_i i t j; unfold litB at h; have e : i = j := of_decide_eq_true h; subst e; exact ⟨.int i, ⟨t, rfl⟩, fun _ _ => .int i⟩)
      | (rename_i x t y; unfold litB at h; have e : x = y := of_decide_eq_true h; subst e; exact ⟨.str x, ⟨t, rfl⟩, fun _ _ => .str x⟩)
      | skip
    rename_i a ds
    unfold litB at h
    cases q : K.lookup a with
    | none => rw [q] at h; cases h
    | some o =>
      obtain ⟨oc, od, dt, osl⟩ := o
      rw [q] at h
      cases oc with
      | type c =>
        cases od with
        | none =>
          cases dt with
          | seq us m =>
            have h : (decide (c = "tuple") && (decide (us.size ≤ sizeLine) && litAll K n us.toList ds)) = true := h
            rw [Bool.and_eq_true, Bool.and_eq_true] at h
            obtain ⟨xs, r, hd⟩ := litAll_of ih us.toList ds h.2.2
            exact ⟨.ref a, rfl, fun F α => .tup ⟨.inr ⟨_, us, m, q, congrArg Value.type (of_decide_eq_true h.1), rfl, of_decide_eq_true h.2.1, r⟩, .inr ⟨_, q, rfl⟩⟩ (hd F α)⟩
          | _ => cases h
        | some _ => cases dt <;> cases h
      | _ => cases od <;> cases dt <;> cases h
/-- the module's name x holds this -/
structure Lit (w : World) (K : Fg) (mg : Str → Option Value) (x : Str) (d : D) : Prop where
  ex : ∃ u v, mg x = some u ∧ RelV v u ∧ ∀ F α, DV w K mg F α v d
def litF (K : Fg) (p : Str × D) : Bool := match PySem.W.nsIn K mainGlobals p.1 with
  | some (some u) => litB K 9 u p.2
  | _ => false
theorem litF_ok {h : Heap} {x : Str} {d : D} (X : K.In h) (G : h.Ns mainGlobals mg) (c : litF K (x, d) = true) : Lit w K mg x d := by
  have c2 : (match PySem.W.nsIn K mainGlobals x with
    | some (some u) => litB K 9 u d
    | _ => false) = true := c
  cases e : PySem.W.nsIn K mainGlobals x with
  | none => rw [e] at c2; cases c2
  | some o =>
    cases o with
    | none => rw [e] at c2; cases c2
    | some u =>
      rw [e] at c2
      obtain ⟨v, r, hv⟩ := litB_ok (w := w) (mg := mg) _ _ _ (show litB K 9 u d = true from c2)
      exact ⟨u, v, PySem.W.mg_of X G e, r, hv⟩
end
theorem pd_lit {X : Cx} {W : WX} {x : Str} {d : D} {pos : Pos} (hm : Lit X.w X.K X.mg x d) (hg : Gl X x := by rfl) (hd : (x == ("__debug__" : Str)) = false := by decide) : PD X W (.Name x pos) (rC d) := by
  obtain ⟨u, v, h1, h2, h3⟩ := hm.ex
  exact pd_c (v := v) (pe_glob hg h1 h2 hd) h3
/-! the head's hook with these -/
def obsL (fa : List He.Fa) (fn : List He.DefD) (li : List (Str × D)) (K : Fg) : He.AlD := (digB K && (li.all (litF K) && (He.obsD fa fn K).1), (He.obsD fa fn K).2)
def SaysL (fa : List He.Fa) (fn : List He.DefD) (li : List (Str × D)) (K : Fg) : Prop := obsL fa fn li K = He.valD fn
def obsLG (n : Nat) (fa : List He.Fa) (fn : List He.DefD) (li : List (Str × D)) (g : Addr → Option Obj) : He.AlD := obsL fa fn li (He.frG g (He.asD g n ++ [cStatics]))
def hookL (n : Nat) (fa : List He.Fa) (fn : List He.DefD) (li : List (Str × D)) : PySem.W.Hook where
  α := He.AlD
  obs := fun s => obsLG n fa fn li s.heap.get?
  val := fun _ => He.valD fn
  says := fun _ h => ∃ K : Fg, K.In h ∧ SaysL fa fn li K
  of := fun _ _ e => ⟨_, He.frG_in, e⟩
  keeps := fun _ _ _ ⟨K, hK, c⟩ k => ⟨K, PySem.W.Frag.In.keeps hK k, c⟩
theorem obsLG_eq {n : Nat} {fa : List He.Fa} {fn : List He.DefD} {li : List (Str × D)} {g : Addr → Option Obj} {s : Shared} (h : ∀ a, g a = s.heap.get? a) : obsLG n fa fn li g = (hookL n fa fn li).obs s := by
  have e : g = s.heap.get? := funext h
  rw [e] <;> rfl
theorem SaysL.all {fa : List He.Fa} {fn : List He.DefD} {li : List (Str × D)} {K : Fg} (h : SaysL fa fn li K) : He.SaysD fa fn K ∧ NoDig K ∧ ∀ (i : Nat) (p : Str × D), li[i]? = some p → litF K p = true := by
  have h0 : obsL fa fn li K = He.valD fn := h
  have h1 : (digB K && (li.all (litF K) && (He.obsD fa fn K).1)) = true := congrArg (fun z : He.AlD => z.1) h0
  have h2 : (obsL fa fn li K).2 = (He.valD fn).2 := congrArg (fun z : He.AlD => z.2) h0
  rw [Bool.and_eq_true, Bool.and_eq_true] at h1
  refine ⟨?_, ?_, fun i p hp => List.all_eq_true.mp h1.2.1 p (List.mem_of_getElem? hp)⟩
  · show He.obsD fa fn K = He.valD fn
    exact Prod.ext h1.2.2 h2
  · have h3 := h1.1
    unfold digB at h3
    unfold NoDig
    exact of_decide_eq_true h3
end DL

set_option Elab.async false
set_option linter.all false
set_option maxRecDepth 100000
set_option maxHeartbeats 4000000
set_option autoImplicit false
/-! list(range(n)): a new list of numbers. -/
namespace DL
open PySem PySem.Spec PyProof.Rows L2

/-- list(range(n)) -/
def rListR (a : RE) : RE := fun δ S => (a δ S).bind fun d S1 => match d with
  | .int j => if 0 ≤ j ∧ j ≤ 16777216 then .ok (.lst (rangeD 0 j)) S1 else .stuck
  | _ => .stuck

section
variable {X : Cx} {W : WX} {a : Expr} {ra : RE} {pos pos2 p p2 : Pos} {wd : World} {K : Fg} {mg : Str → Option Value} {F : Hp} {α : List Addr}
theorem dvs_range (j : Int) : DVs wd K mg F α (rgV 0 j) (rangeD 0 j) := by
  have := DVs.of_ints (wd := wd) (K := K) (mg := mg) (F := F) (α := α) ((List.range (j - 0).toNat).map fun (i : Nat) => (0 + (i : Int)))
  rw [List.map_map, List.map_map] at this
  exact this
theorem pf_listRange (hc : X.calm = true) (hm : X.mg "list" = none) (hm2 : X.mg "range" = none) (ha : PD X W a ra) (hg : Gl X "list" := by rfl) (hg2 : Gl X "range" := by rfl)
    (na : starEach [a] X.env = (false, eval a X.env) :: starEach [] X.env := by rfl) (nb : starEach [.Call (.Name "range" p2) [a] [] pos2] X.env = (false, eval (.Call (.Name "range" p2) [a] [] pos2) X.env) :: starEach [] X.env := by rfl) :
    PF X W (.Call (.Name "list" p) [.Call (.Name "range" p2) [a] [] pos2] [] pos) (rListR ra) := by
  obtain ⟨t, pt, st⟩ := ha.ex
  refine ⟨_, pe_listRg hc hg hm (prg_1 hg2 hm2 pt na) nb, fun α F σ H δ S Q hr hs h => ?_⟩
  refine st α F σ H δ S _ hr hs (wpF.bind h fun d S1 _ x H1 β F1 r1 q1 v1 h1 => ?_)
  split at h1
  · rename_i j _
    cases v1
    split at h1
    · rename_i hj
      refine ⟨j, rfl, RgOk.of_le (by omega) (by omega) (by omega) (by omega), fun q hq => h1.lay r1 hq ⟨rgV 0 j, upd_same, dvs_range j⟩ rfl⟩
    · exact h1.elim
  · exact h1.elim
end
end DL

set_option Elab.async false
set_option linter.all false
set_option maxRecDepth 100000
set_option maxHeartbeats 4000000
set_option autoImplicit false
/-! d.update(e), both dicts with keys ints and texts. -/
namespace L2
open PySem PySem.Spec PyProof.Rows
def tDUpd (td ty : TE) : TE := fun σ H Q => td σ H fun x H1 => ∃ a, x = .ref a ∧ IsD H1 a ∧ ty σ H1 fun y H2 => ∃ o kvs more, y = .ref o ∧ H2 a = some (.dK kvs) ∧ H2 o = some (.dK more) ∧ a ≠ o ∧ kvs.length + more.length ≤ sizeLine ∧ Q .non (upd H2 a (.dK (mergeK kvs more)))
section
variable {X : Cx} {o e f : Expr} {apos cpos : Pos} {td ty tx : TE}
theorem pe_dupd (ho : PE X o td) (he : PE X e ty) (m : M1 X o "update" apos e cpos) : PE X (.Call (.Attribute o "update" apos) [e] [] cpos) (tDUpd td ty) := by
  refine ⟨fun pins s σ H Q I h => ?_⟩
  refine wpAny_Call_method m.base m.few m.line PySem.F.plainAttrs_dict PySem.F.slot_dict_update PySem.F.type_dict_update (thn (ho.run pins s σ H _ I h) fun u s1 ⟨x, H1, I1, rx, a, ex, d, q1⟩ => ?_)
  subst ex
  obtain rfl : u = Value.ref a := rx
  obtain ⟨t1, t2, _⟩ := isD_at I1 d
  refine ⟨t1, t2, ?_⟩
  rw [m.trees]
  refine Calls.callWith_builtin rfl (Calls.evalArgs_plain (Calls.spliced_cons (thn (he.run pins s1 σ H1 _ I1 q1) fun iv s2 ⟨y, H2, I2, ry, b, kvs, more, ey, e1, e2, hne, hz, q2⟩ => Calls.spliced_nil ?_)))
  subst ey
  obtain rfl : iv = Value.ref b := ry
  obtain ⟨z, hd, vs, rel, dd⟩ := dk_of I2.hok e1
  obtain ⟨z2, hd2, vs2, rel2, dd2⟩ := dk_of I2.hok e2
  refine call_meetsIn PySem.F.slot_dict_update dd.typeIs PySem.F.entry_dict_update (PySem.F.args_dict_update_2 _ _) (meets_dict_update (mixKind X.prog X.w) a b hne hd2)
    ⟨vs, vs2, dd, dd2, (by rw [← rel.length, ← rel2.length]; exact hz), fun h' dd' _ hs => ?_⟩
  have he' : ∃ q, h'.get? a = some q := let ⟨q, _, _, hq, _⟩ := dd'; ⟨q, hq⟩
  have hl : (mergeK kvs more).length ≤ sizeLine := Nat.le_trans (length_mergeK more kvs) hz
  exact ⟨.non, _, d_write I2 (by rw [e1]; exact True.intro) hs he' (dk_new hl hd (rel2.merge rel) dd'), rfl, q2⟩
end
end L2
namespace DL
open PySem PySem.Spec PyProof.Rows L2
def updD (n : Nat) (y : D) (S2 : Sto) : Res D := match y with
  | .ptr m => if n = m then .stuck else (match S2[n]?, S2[m]? with
    | some (.dct kvs), some (.dct more) => if kvs.length + more.length ≤ sizeLine then .ok .non (S2.set n (.dct (mergeD kvs more))) else .stuck
    | _, _ => .stuck)
  | _ => .stuck
def rUpd (d e : RE) : RE := fun δ S => (d δ S).bind fun x S1 => match x with
  | .ptr n => (match S1[n]? with
    | some (.dct _) => (e δ S1).bind fun y S2 => updD n y S2
    | _ => .stuck)
  | _ => .stuck
section
variable {X : Cx} {W : WX} {a b : Expr} {ra rb : RE}
theorem pd_upd {apos cpos : Pos} (ha : PD X W a ra) (hb : PD X W b rb) (m : M1 X a "update" apos b cpos := by exact ⟨rfl, rfl, rfl, rfl⟩) : PD X W (.Call (.Attribute a "update" apos) [b] [] cpos) (rUpd ra rb) := by
  obtain ⟨ta, pa, sa⟩ := ha.ex
  obtain ⟨tb, pb, sb⟩ := hb.ex
  refine ⟨_, pe_dupd pa pb m, fun α F σ H δ S Q hr hs h => ?_⟩
  refine sa α F σ H δ S _ hr hs (wp.bind h fun d S1 _ x H1 β F1 r1 s1 v1 h1 => ?_)
  split at h1
  · rename_i n _
    split at h1
    · rename_i kv0 e0
      cases v1 with
      | @ptr _ ad ea =>
        obtain ⟨o0, _⟩ := r1.own _ _ _ ea e0
        obtain ⟨ws0, o1, _⟩ := Own.dctK.mp o0
        refine ⟨ad, rfl, .inl ⟨ws0, .of o1⟩, ?_⟩
        refine sb (α ++ β) F1 σ H1 δ S1 _ r1 (hs.mono s1.sub) (wp.bind h1 fun y S2 _ yv H2 γ F2 r2 s2 v2 h2 => ?_)
        unfold updD at h2
        split at h2
        · rename_i m'
          split at h2
          · exact h2.elim
          · rename_i hnm
            split at h2
            · rename_i kvs more q1 q2
              split at h2
              · rename_i hz
                cases v2 with
                | @ptr _ bd eb =>
                  have ea2 : (α ++ β ++ γ)[n]? = some ad := by rw [List.getElem?_append_left (List.getElem?_eq_some_iff.mp ea).1]; exact ea
                  obtain ⟨p0, _⟩ := r2.own _ _ _ ea2 q1
                  obtain ⟨ws, p1, p2⟩ := Own.dctK.mp p0
                  obtain ⟨g0, _⟩ := r2.own _ _ _ eb q2
                  obtain ⟨wm, g1, g2⟩ := Own.dctK.mp g0
                  have hne : ad ≠ bd := fun z => hnm (by
                    subst z
                    exact (List.getElem?_inj (List.getElem?_eq_some_iff.mp ea2).1 r2.nd).mp (ea2.trans eb.symm))
                  obtain ⟨a1, a2⟩ := r2.setO (o := .dK (mergeK ws wm)) (d := .dct (mergeD kvs more)) ea2 q1 rfl (Own.dctK.mpr ⟨_, upd_same, g2.merge p2⟩)
                  exact ⟨bd, ws, wm, rfl, p1, g1, hne, by rw [p2.length, g2.length]; exact hz, h2 _ _ _ _ a1 a2 .non⟩
              · exact h2.elim
            · exact h2.elim
        · exact h2.elim
    · exact h1.elim
  · exact h1.elim
end
end DL

set_option Elab.async false
set_option linter.all false
set_option maxRecDepth 100000
set_option maxHeartbeats 4000000
set_option autoImplicit false
/-! sorted(d) of a dict with texts for keys, fewer than 64. -/
namespace DL
open PySem PySem.Spec PyProof.Rows L2
def strKeys : List (D × D) → Option (List Str)
  | [] => some []
  | (.str x, _) :: r => (strKeys r).map (x :: ·)
  | _ => none
/-- sorted(d) -/
def gSortKeys : Sto → List D → Option D := fun S ds => match ds with
  | [d] => (match deref S d with
    | .dct kvs => (match strKeys kvs with
      | some ks => if ks.length < 64 then some (.lst ((sortT ks).map .str)) else none
      | none => none)
    | _ => none)
  | _ => none
theorem leT_of {x p : Str} (h : ltCps x.cps.toList p.cps.toList = false) : leT p x = true := by
  rw [ltCps_eq] at h
  exact decide_eq_true (List.not_lt.mp (of_decide_eq_false h))
theorem rising_pairwise : ∀ (r : List Str) (p : Str), risingS p r = true → (p :: r).Pairwise fun a b => leT a b = true
  | [], p, _ => List.pairwise_singleton _ _
  | x :: r, p, h => by
    unfold risingS at h
    rw [Bool.and_eq_true, Bool.not_eq_true'] at h
    have ih := rising_pairwise r x h.2
    refine List.Pairwise.cons (fun y hy => ?_) ih
    rcases List.mem_cons.mp hy with rfl | hy
    · exact leT_of h.1
    · exact leT_trans _ _ _ (leT_of h.1) (List.rel_of_pairwise_cons ih hy)
theorem sorted_is {ys ks : List Str} (p : ys.Perm ks) (h : sortedS ys = true) : ys = sortT ks := by
  have hp : ys.Pairwise fun a b => leT a b = true := by
    cases ys with
    | nil => exact List.Pairwise.nil
    | cons x r => exact rising_pairwise r x h
  exact List.Perm.eq_of_pairwise (le := fun a b => leT a b = true) (fun a b _ _ => leT_anti a b) hp (sortT_pairwise ks) (p.trans (sortT_perm ks).symm)
section
variable {X : Cx} {W : WX} {e : Expr} {es : List Expr} {rs : RA} {pos p : Pos} {wd : World} {K : Fg} {mg : Str → Option Value} {F : Hp} {α : List Addr}
theorem strKeys_of {ws : List (Key × V)} {kvs : List (D × D)} (h : KVs wd K mg F α ws kvs) : ∀ {ks : List Str}, strKeys kvs = some ks → ws.map (·.1) = ks.map Sum.inr := by
  induction h with
  | nil => intro ks e; cases e; rfl
  | @cons j u e ws kvs h1 _ ih =>
    intro ks e1
    cases j with
    | inl i => cases e1
    | inr x =>
      obtain ⟨k2, e2, rfl⟩ := Option.map_eq_some_iff.mp (show (strKeys kvs).map (x :: ·) = some ks from e1)
      rw [List.map_cons, List.map_cons, ih e2]
theorem pf_sortKeys (hcalm : X.calm = true) (hm : X.mg "sorted" = none) (ha : PDs X W (e :: es) rs) (hg : Gl X "sorted" := by rfl) (he : starEach (e :: es) X.env = (false, eval e X.env) :: starEach es X.env := by rfl) (hpl : (backTo pos (starEach es X.env)).any (·.1) = false := by rfl) :
    PF X W (.Call (.Name "sorted" p) (e :: es) [] pos) (rAs gSortKeys rs) := pf_callB (call_sortedD hcalm) (fun α F H S xs ds z Q hr hv hz => by
  unfold gSortKeys at hz
  split at hz
  · cases hv with
    | cons h1 h2 =>
      cases h2
      split at hz
      · rename_i kvs e1
        split at hz
        · rename_i ks e2
          split at hz
          · rename_i hl
            cases hz
            obtain ⟨a, ws, rfl, q, k⟩ := hr.viewD h1 e1
            refine ⟨_, (sortT ks).map .str, rfl, DVs.of_strs _, fun hq => ⟨a, ws, ks, rfl, q, strKeys_of k e2, hl, fun ys p hp hs hn => ?_⟩⟩
            rw [sorted_is hp hs]
            exact hq p hn
          · cases hz
        · cases hz
      · cases hz
  · cases hz) hm ha hg (he := he) (hpl := hpl)
end
end DL

set_option Elab.async false
set_option linter.all false
set_option maxRecDepth 100000
set_option maxHeartbeats 4000000
set_option autoImplicit false
/-! a != b of two dicts whose values are numbers. -/
namespace DL
open PySem PySem.Spec PyProof.Rows L2
inductive HitsV (wm : List (Key × V)) : List (Key × V) → Bool → Prop
  | nil : HitsV wm [] true
  | miss {k : Key} {v : V} {r : List (Key × V)} : valV wm k = none → HitsV wm ((k, v) :: r) false
  | hit {k : Key} {i j : Int} {r : List (Key × V)} {b : Bool} : valV wm k = some (.int j) → HitsV wm r b → HitsV wm ((k, .int i) :: r) (decide (i = j) && b)
theorem hits_of {A : Around} {s : Shared} {wm : List (Key × V)} {vm : List (Key × Value)} (rm : KV wm vm) {ws : List (Key × V)} {r : Bool} (h : HitsV wm ws r) : ∀ {vs : List (Key × Value)}, KV ws vs → PySem.W.KeqHits A s vm vs r := by
  induction h with
  | nil => intro vs hv; unfold KV at hv; cases hv; exact .nil
  | @miss k v r e =>
    intro vs hv
    unfold KV at hv
    cases hv with
    | @cons p q ps qs h1 h2 =>
      obtain ⟨qk, qv⟩ := q
      obtain ⟨e1, e2⟩ := h1
      have e1 : k = qk := e1
      subst e1
      exact .miss (RelO.none_of (by rw [← e]; exact rm.val k))
  | @hit k i j r b e _ ih =>
    intro vs hv
    unfold KV at hv
    cases hv with
    | @cons p q ps qs h1 h2 =>
      obtain ⟨qk, qv⟩ := q
      obtain ⟨e1, e2⟩ := h1
      have e1 : k = qk := e1
      subst e1
      have e2 : RelV (.int i) qv := e2
      obtain ⟨t, rfl⟩ := e2
      have rv := rm.val k
      rw [e] at rv
      cases ev : valueAt vm k with
      | none => rw [ev] at rv; exact rv.elim
      | some y =>
        rw [ev] at rv
        have rv : RelV (.int j) y := rv
        obtain ⟨t', rfl⟩ := rv
        exact .hit ev (show SeqAt.EqAt A s _ _ (decide (i = j)) from PySem.W.keq_flat (PyProof.V.Flat.int i t) (PyProof.V.Flat.int j t')) (ih h2)
/-- a != b of dicts -/
def eqPart (mvs : List (D × D)) : List (D × D) → Option Bool
  | [] => some true
  | (k, .int i) :: r => (match lookD mvs k with
    | none => some false
    | some (.int j) => (eqPart mvs r).map fun b => decide (i = j) && b
    | _ => none)
  | _ => none
def gNeD : Sto → D → D → Option D := fun S a b => match deref S a, deref S b with
  | .dct kvs, .dct mvs => (eqPart mvs kvs).map fun r => .bl (!(kvs.length == mvs.length && r))
  | _, _ => none
section
variable {X : Cx} {W : WX} {wd : World} {K : Fg} {mg : Str → Option Value} {F : Hp} {α : List Addr}
theorem hitsV_of {wm : List (Key × V)} {mvs : List (D × D)} (hm : KVs wd K mg F α wm mvs) {ws : List (Key × V)} {kvs : List (D × D)} (h : KVs wd K mg F α ws kvs) : ∀ {r : Bool}, eqPart mvs kvs = some r → HitsV wm ws r := by
  induction h with
  | nil => intro r e; cases e; exact .nil
  | @cons k v d ws kvs h1 _ ih =>
    intro r e
    obtain ⟨g1, g2⟩ := hm.look k
    cases d with
    | int i =>
      cases h1
      unfold eqPart at e
      cases el : lookD mvs (kD k) with
      | none => rw [el] at e; cases e; exact .miss (g2 el)
      | some z =>
        rw [el] at e
        cases z with
        | int j =>
          obtain ⟨b, e1, rfl⟩ := Option.map_eq_some_iff.mp e
          obtain ⟨v', e2, e3⟩ := g1 _ el
          cases e3
          exact .hit e2 (ih e1)
        | _ => cases e
    | _ => unfold eqPart at e; cases e
theorem g_neD (hu : X.A.units + 64 < cLine) : OpG X (compareOp .NotEq) gNeD := by
  refine ⟨fun x y H Q => ∃ a b ws wm r, x = .ref a ∧ y = .ref b ∧ Rd H a (.dK ws) ∧ Rd H b (.dK wm) ∧ HitsV wm ws r ∧ Q (.bl (!(ws.length == wm.length && r))) H, ?_, ?_⟩
  · intro pins s σ H x y v u Q I rx ry h
    obtain ⟨a, b, ws, wm, r, rfl, rfl, ha, hb, hh, q⟩ := h
    obtain rfl : v = Value.ref a := rx
    obtain rfl : u = Value.ref b := ry
    obtain ⟨z, hd, vs, rel, dd⟩ := dk_rd I.hok ha
    obtain ⟨z2, hd2, vs2, rel2, dd2⟩ := dk_rd I.hok hb
    refine PySem.W.keq_ne hd hd2 dd dd2 (by omega) (fun _ => hits_of rel2 hh rel) ⟨.bl _, H, I, rfl, ?_⟩
    rw [← rel.length, ← rel2.length]
    exact q
  · intro α F H S x y d e z Q hr hx hy hz q
    unfold gNeD at hz
    split at hz
    · rename_i kvs mvs e1 e2
      obtain ⟨r, e3, rfl⟩ := Option.map_eq_some_iff.mp hz
      obtain ⟨a, ws, rfl, p1, p2⟩ := hr.viewD hx e1
      obtain ⟨b, wm, rfl, m1, m2⟩ := hr.viewD hy e2
      refine ⟨a, b, ws, wm, r, rfl, rfl, p1, m1, hitsV_of m2 p2 e3, ?_⟩
      have an : α ++ [] = α := List.append_nil α
      rw [p2.length, m2.length]
      exact q _ H [] F (by rw [an]; exact hr) Stp.refl (.bl _)
    · cases hz
end
end DL

set_option Elab.async false
set_option linter.all false
set_option maxRecDepth 100000
set_option maxHeartbeats 4000000
set_option autoImplicit false
/-! d.clear() of a dict with keys ints and texts. -/
namespace DL
open PySem PySem.Spec PyProof.Rows L2
def rClr (d : RE) : RE := fun δ S => (d δ S).bind fun x S1 => match x with
  | .ptr n => (match S1[n]? with
    | some (.dct _) => .ok .non (S1.set n (.dct []))
    | _ => .stuck)
  | _ => .stuck
section
variable {X : Cx} {W : WX} {a : Expr} {ra : RE}
theorem pd_clr {apos cpos : Pos} (ha : PD X W a ra) (hbase : attributeBase a "clear" X.env (eval a X.env) = eval a X.env := by rfl) (hline : (apos.endLine == cpos.line) = true := by rfl) : PD X W (.Call (.Attribute a "clear" apos) [] [] cpos) (rClr ra) := by
  obtain ⟨ta, pa, sa⟩ := ha.ex
  refine ⟨_, pe_dclear pa hbase hline, fun α F σ H δ S Q hr hs h => ?_⟩
  refine sa α F σ H δ S _ hr hs (wp.bind h fun d S1 _ x H1 β F1 r1 s1 v1 h1 => ?_)
  split at h1
  · rename_i n _
    split at h1
    · rename_i kv0 e0
      cases v1 with
      | @ptr _ ad ea =>
        obtain ⟨o0, _⟩ := r1.own _ _ _ ea e0
        obtain ⟨ws0, o1, o2⟩ := Own.dctK.mp o0
        obtain ⟨a1, a2⟩ := r1.setO (o := .dK []) (d := .dct []) ea e0 rfl (Own.dctK.mpr ⟨_, upd_same, .nil⟩)
        refine ⟨?_, ad, ws0, rfl, rfl, o1, h1 _ _ _ _ a1 a2 .non⟩
        exact .inr (.inr (.inl ⟨rfl, .inl ⟨_, o1⟩⟩))
    · exact h1.elim
  · exact h1.elim
end
end DL

set_option Elab.async false
set_option linter.all false
set_option maxRecDepth 100000
set_option maxHeartbeats 4000000
set_option autoImplicit false
/-! a != b of two dicts whose values are data. -/
namespace DL
open PySem PySem.Spec PyProof.Rows L2
inductive HitsE (K : PySem.W.Frag) (H : Hp) (wm : List (Key × V)) : List (Key × V) → Bool → Prop
  | nil : HitsE K H wm [] true
  | miss {k : Key} {v : V} {r : List (Key × V)} : valV wm k = none → HitsE K H wm ((k, v) :: r) false
  | hit {k : Key} {v u : V} {x y : PyData} {r : List (Key × V)} {b : Bool} : valV wm k = some u → Dp K H v x → Dp K H u y → SeqAt.shaped x = true → SeqAt.shaped y = true → x.depth ≤ 60 → HitsE K H wm r b → HitsE K H wm ((k, v) :: r) (PyData.eqv x y && b)
theorem hits_ofE {X : Cx} {A : Around} {pins : List (Addr × Obj)} {σ : L2.St} {H : Hp} {s : Shared} (I : Inv X pins σ H s) (hu : A.units + 62 < cLine) {wm : List (Key × V)} {vm : List (Key × Value)} (rm : KV wm vm) {ws : List (Key × V)} {r : Bool} (h : HitsE X.K H wm ws r) : ∀ {vs : List (Key × Value)}, KV ws vs → PySem.W.KeqHits A s vm vs r := by
  induction h with
  | nil => intro vs hv; unfold KV at hv; cases hv; exact .nil
  | @miss k v r e =>
    intro vs hv
    unfold KV at hv
    cases hv with
    | @cons p q ps qs h1 h2 =>
      obtain ⟨qk, qv⟩ := q
      obtain ⟨e1, e2⟩ := h1
      have e1 : k = qk := e1
      subst e1
      exact .miss (RelO.none_of (by rw [← e]; exact rm.val k))
  | @hit k v u x y r b e hx hy sx sy dx _ ih =>
    intro vs hv
    unfold KV at hv
    cases hv with
    | @cons p q ps qs h1 h2 =>
      obtain ⟨qk, qv⟩ := q
      obtain ⟨e1, e2⟩ := h1
      have e1 : k = qk := e1
      subst e1
      have e2 : RelV v qv := e2
      have rv := rm.val k
      rw [e] at rv
      cases ev : valueAt vm k with
      | none => rw [ev] at rv; exact rv.elim
      | some z =>
        rw [ev] at rv
        have rv : RelV u z := rv
        obtain ⟨as, r1⟩ := Dp.reads I x v qv hx e2
        obtain ⟨bs, r2⟩ := Dp.reads I y u z hy rv
        exact .hit ev (SeqAt.eqAt_reads x y A s qv z as bs r1 r2 (SeqAt.canLay_of_shaped sx) (SeqAt.canLay_of_shaped sy) (by
          have : min x.depth y.depth ≤ x.depth := Nat.min_le_left _ _
          omega)) (ih h2)
/-- a != b of dicts -/
def eqPartE (S : Sto) (mvs : List (D × D)) : List (D × D) → Option Bool
  | [] => some true
  | (k, d) :: r => (match lookD mvs k with
    | none => some false
    | some e => (match toPy S d, toPy S e with
      | some x, some y => if SeqAt.shaped x && SeqAt.shaped y && decide (x.depth ≤ 60) then (eqPartE S mvs r).map fun b => PyData.eqv x y && b else none
      | _, _ => none))
def gNeE : Sto → D → D → Option D := fun S a b => match deref S a, deref S b with
  | .dct kvs, .dct mvs => (eqPartE S mvs kvs).map fun r => .bl (!(kvs.length == mvs.length && r))
  | _, _ => none
section
variable {X : Cx} {W : WX} {wd : World} {K : Fg} {mg : Str → Option Value} {F H : Hp} {α : List Addr} {S : Sto}
theorem hitsE_of (s : Sub F H) {wm : List (Key × V)} {mvs : List (D × D)} (hm : KVs wd K mg F α wm mvs) {ws : List (Key × V)} {kvs : List (D × D)} (h : KVs wd K mg F α ws kvs) : ∀ {r : Bool}, eqPartE S mvs kvs = some r → HitsE K H wm ws r := by
  induction h with
  | nil => intro r e; cases e; exact .nil
  | @cons k v d ws kvs h1 _ ih =>
    intro r e
    obtain ⟨g1, g2⟩ := hm.look k
    unfold eqPartE at e
    cases el : lookD mvs (kD k) with
    | none => rw [el] at e; cases e; exact .miss (g2 el)
    | some z =>
      rw [el] at e
      dsimp only at e
      split at e
      · rename_i x y ex ey
        split at e
        · rename_i hc
          rw [Bool.and_eq_true, Bool.and_eq_true, decide_eq_true_eq] at hc
          obtain ⟨b, e1, rfl⟩ := Option.map_eq_some_iff.mp e
          obtain ⟨v', e2, e3⟩ := g1 _ el
          exact .hit e2 (DV.dp h1 ex s) (DV.dp e3 ey s) hc.1.1 hc.1.2 hc.2 (ih e1)
        · cases e
      · cases e
theorem g_neE (hu : X.A.units + 64 < cLine) : OpG X (compareOp .NotEq) gNeE := by
  refine ⟨fun x y H Q => ∃ a b ws wm r, x = .ref a ∧ y = .ref b ∧ Rd H a (.dK ws) ∧ Rd H b (.dK wm) ∧ HitsE X.K H wm ws r ∧ Q (.bl (!(ws.length == wm.length && r))) H, ?_, ?_⟩
  · intro pins s σ H x y v u Q I rx ry h
    obtain ⟨a, b, ws, wm, r, rfl, rfl, ha, hb, hh, q⟩ := h
    obtain rfl : v = Value.ref a := rx
    obtain rfl : u = Value.ref b := ry
    obtain ⟨z, hd, vs, rel, dd⟩ := dk_rd I.hok ha
    obtain ⟨z2, hd2, vs2, rel2, dd2⟩ := dk_rd I.hok hb
    refine PySem.W.keq_ne hd hd2 dd dd2 (by omega) (fun _ => hits_ofE I (by show X.A.units + 1 + 62 < cLine; omega) rel2 hh rel) ⟨.bl _, H, I, rfl, ?_⟩
    rw [← rel.length, ← rel2.length]
    exact q
  · intro α F H S x y d e z Q hr hx hy hz q
    unfold gNeE at hz
    split at hz
    · rename_i kvs mvs e1 e2
      obtain ⟨r, e3, rfl⟩ := Option.map_eq_some_iff.mp hz
      obtain ⟨a, ws, rfl, p1, p2⟩ := hr.viewD hx e1
      obtain ⟨b, wm, rfl, m1, m2⟩ := hr.viewD hy e2
      refine ⟨a, b, ws, wm, r, rfl, rfl, p1, m1, hitsE_of hr.sub m2 p2 e3, ?_⟩
      have an : α ++ [] = α := List.append_nil α
      rw [p2.length, m2.length]
      exact q _ H [] F (by rw [an]; exact hr) Stp.refl (.bl _)
    · cases hz
end
end DL

set_option Elab.async false
set_option linter.all false
set_option maxRecDepth 100000
set_option maxHeartbeats 4000000
set_option autoImplicit false
/-! sorted(d) of a dict with ints for keys, any number of them. -/
namespace L2
open PySem PySem.Spec PyProof.Rows
section
variable {X : Cx}
theorem call_sortedDA (hcalm : X.calm = true) : CallR X (.builtin "sorted") (fun xs H Q => ∃ (a : Addr) (kvs : List (Key × V)) (ks : List Int), xs = [.ref a] ∧ Rd H a (.dK kvs) ∧ kvs.map (·.1) = ks.map Sum.inl ∧
    ∀ (ys : List Int) (p : Addr), ys.Perm ks → ys.Pairwise (· ≤ ·) → H p = none → Q (.ref p) (upd H p (.lst (ys.map V.int)))) := by
  intro pins s σ H xs us Q I r q
  obtain ⟨a, kvs, ks, ex, hd, hks, q⟩ := q
  subst ex
  obtain ⟨u, eu, rx⟩ := vals1 r
  subst eu
  cases rx
  obtain ⟨z, lo, vs, rel, dd⟩ := dk_rd I.hok hd
  obtain ⟨ep, hat⟩ := dd.dictAt
  have hkeys : vs.map (·.1) = ks.map Sum.inl := rel.keys.symm.trans hks
  have hl : vs.length = ks.length := by
    have e := congrArg List.length hkeys
    rw [List.length_map, List.length_map] at e
    exact e
  have h16 : vs.length ≤ sizeLine := by rw [← rel.length]; exact z
  refine Calls.call_function_entry PyProof.Rows.kind_sorted PyProof.Rows.plain_sorted PyProof.Rows.entry_sorted (PyProof.Rows.args_sorted1 _) ?_
  unfold Builtin.«sorted»
  refine wpAny_bind (m := checkCount "sorted" 1 1 _) (wpAny_pure ?_)
  refine wpAny_bind (PySem.W.kdu_collect (A := X.A.in1) (PySem.W.kdl_dict (knd := mixKind X.prog X.w) (kvs := vs) (ep := ep) lo) (I.ok.hd hcalm) hat h16 fun h' tk acc hk hacc => ?_)
  have hal : acc.toList.length = ks.length := by rw [Array.length_toList, hacc.1, hl]
  have hS : IntsAre acc.toList ks := ints_each hal fun j v e => by
    obtain ⟨k, x, e1, e2⟩ := hacc.2 j v (by rw [← Array.getElem?_toList]; exact e)
    have e3 : (vs.map (·.1))[j]? = some k := by rw [List.getElem?_map, e1]; rfl
    rw [hkeys, List.getElem?_map] at e3
    cases e4 : ks[j]? with
    | none => rw [e4] at e3; cases e3
    | some y =>
      rw [e4] at e3
      have e5 : Sum.inl y = k := Option.some.inj e3
      subst e5
      rcases keyIs_shape (show keyIs (Sum.inl y) v = true from e2) with ⟨i, t, ek, ev⟩ | ⟨z, t, ek, ev⟩
      · cases ek
        exact ⟨y, t, rfl, ev⟩
      · cases ek
  have I1 : Inv X pins σ H { s with heap := h', toks := tk } := I.kept hk
  have hz2 : acc.toList.length ≤ sizeLine := by rw [hal, ← hl]; exact h16
  refine wpAny_bind (wpAny_newList ?_ hz2)
  have hoL : (h'.push (seqObj "list" acc.toList.toArray 0)).get? h'.objs.size = some (seqObj "list" acc.toList.toArray 0) := Heap.get?_push_size _ rfl
  show wpAny _ _ _ _ _ { s with heap := h'.push (seqObj "list" acc.toList.toArray 0), toks := tk }
  refine wpAny_bind (wpAny_holding (wpAny_call_entry PyProof.Rows.slot_list_sort ⟨_, hoL, rfl⟩ PyProof.Rows.entry_list_sort
    (SrtO.list_sort_ord SrtO.swo_int (s := { s with heap := h'.push (seqObj "list" acc.toList.toArray 0), toks := tk }) hoL hz2 (fun h2 => SrtO.ints_sortable hS h2) fun out h1 h2 => ⟨_, rfl, ?_⟩) (PyProof.Rows.args_list_sort _)))
  obtain ⟨k1, k2, k3⟩ := SrtO.ints_out hS h1 h2
  obtain ⟨e', he'⟩ := PyProof.Rows.sortedHeap_at (vs := acc.toList) (out := out.toArray) hoL
  have hlen : ((out.map SrtO.iv).map V.int).length ≤ sizeLine := by
    rw [List.length_map, k2.length_eq, ← hl]
    exact h16
  refine wpAny_pure ⟨_, rfl, .ref h'.objs.size, upd H h'.objs.size (.lst ((out.map SrtO.iv).map V.int)), I1.laid (t' := tk) (fun b u e => ?_) (Nat.le_refl _)
    (show ObjOk X.prog X.w _ _ _ (.lst ((out.map SrtO.iv).map V.int)) from ⟨hlen, out, e', vals_of_ints k1, he'⟩), rfl, q _ _ k2 k3 (I1.hok.fresh (Nat.le_refl _))⟩
  have hlt := Heap.lt_size e
  rw [PyProof.Rows.sortedHeap_old (Nat.ne_of_lt hlt) (Heap.lt_size (Heap.get?_push_of_some _ e))]
  exact Heap.get?_push_of_some _ e
end
end L2
namespace DL
open PySem PySem.Spec PyProof.Rows L2
def intKeys : List (D × D) → Option (List Int)
  | [] => some []
  | (.int x, _) :: r => (intKeys r).map (x :: ·)
  | _ => none
def sortI (ks : List Int) : List Int := ks.mergeSort fun a b => decide (a ≤ b)
theorem sortI_perm (ks : List Int) : (sortI ks).Perm ks := List.mergeSort_perm _ _
theorem sortI_pairwise (ks : List Int) : (sortI ks).Pairwise (· ≤ ·) := by
  have := List.pairwise_mergeSort (le := fun a b : Int => decide (a ≤ b)) (fun a b c h1 h2 => by simp at *; omega) (fun a b => by simp; omega) ks
  exact this.imp fun h => by simpa using h
theorem sortedI_is {ys ks : List Int} (p : ys.Perm ks) (h : ys.Pairwise (· ≤ ·)) : ys = sortI ks :=
  List.Perm.eq_of_pairwise (le := (· ≤ ·)) (fun a b _ _ h1 h2 => by omega) h (sortI_pairwise ks) (p.trans (sortI_perm ks).symm)
/-- sorted(d) -/
def gSortKeysI : Sto → List D → Option D := fun S ds => match ds with
  | [d] => (match deref S d with
    | .dct kvs => (intKeys kvs).map fun ks => .lst ((sortI ks).map .int)
    | _ => none)
  | _ => none
section
variable {X : Cx} {W : WX} {e : Expr} {es : List Expr} {rs : RA} {pos p : Pos} {wd : World} {K : Fg} {mg : Str → Option Value} {F : Hp} {α : List Addr}
theorem intKeys_of {ws : List (Key × V)} {kvs : List (D × D)} (h : KVs wd K mg F α ws kvs) : ∀ {ks : List Int}, intKeys kvs = some ks → ws.map (·.1) = ks.map Sum.inl := by
  induction h with
  | nil => intro ks e; cases e; rfl
  | @cons j u e ws kvs h1 _ ih =>
    intro ks e1
    cases j with
    | inr i => cases e1
    | inl x =>
      obtain ⟨k2, e2, rfl⟩ := Option.map_eq_some_iff.mp (show (intKeys kvs).map (x :: ·) = some ks from e1)
      rw [List.map_cons, List.map_cons, ih e2]
theorem DVs.of_ints' : ∀ (ks : List Int), DVs wd K mg F α (ks.map V.int) (ks.map D.int)
  | [] => .nil
  | k :: ks => .cons (.int k) (DVs.of_ints' ks)
theorem pf_sortKeysI (hcalm : X.calm = true) (hm : X.mg "sorted" = none) (ha : PDs X W (e :: es) rs) (hg : Gl X "sorted" := by rfl) (he : starEach (e :: es) X.env = (false, eval e X.env) :: starEach es X.env := by rfl) (hpl : (backTo pos (starEach es X.env)).any (·.1) = false := by rfl) :
    PF X W (.Call (.Name "sorted" p) (e :: es) [] pos) (rAs gSortKeysI rs) := pf_callB (call_sortedDA hcalm) (fun α F H S xs ds z Q hr hv hz => by
  unfold gSortKeysI at hz
  split at hz
  · cases hv with
    | cons h1 h2 =>
      cases h2
      split at hz
      · rename_i kvs e1
        obtain ⟨ks, e2, rfl⟩ := Option.map_eq_some_iff.mp hz
        obtain ⟨a, ws, rfl, q, k⟩ := hr.viewD h1 e1
        refine ⟨_, (sortI ks).map .int, rfl, DVs.of_ints' _, fun hq => ⟨a, ws, ks, rfl, q, intKeys_of k e2, fun ys p hp hs hn => ?_⟩⟩
        rw [sortedI_is hp hs]
        exact hq p hn
      · cases hz
  · cases hz) hm ha hg (he := he) (hpl := hpl)
end
end DL

set_option Elab.async false
set_option linter.all false
set_option maxRecDepth 100000
set_option maxHeartbeats 4000000
set_option autoImplicit false
/-! enumerate(tuple). -/
namespace PySem
open Sem (wp)
open AutoSeq1 (wpAny_loadPart')
theorem meets_enumerate_new1 {v : Value} {o : Obj} {H : Heap → Prop} (B : Begins v o H) :
    Meets (Builtin.«enumerate.__new__» ⟨[.type "enumerate", v], []⟩) (fun _ R s => H s.heap ∧
      R (.ok (.ret (.ref (s.heap.push o).objs.size))) { s with heap := (s.heap.push o).push { cls := .type "enumerate", data := .fields #[.none, .bool false, .ref s.heap.objs.size, rawInt 0, .none, .none] } }) :=
  .of_wp fun prog w A R s h => by
    obtain ⟨hp, g, d, tk, os⟩ := s; obtain ⟨h1, h⟩ := h
    have hsub := sub_enumerate
    have q1 : ∀ {A' : Around} {E : Value → Shared → Prop} {Q : Value → Shared → Prop}, Q (.ref hp.objs.size) ⟨hp.push o, g, d, tk, os⟩ → wpAny (model prog w) A' (pyIter v) Q E ⟨hp, g, d, tk, os⟩ :=
      fun q => B.iter prog w _ _ ⟨hp, g, d, tk, os⟩ _ h1 q
    wp_walk using q1
    refine wpAny_stack_any fun st => wpAny_pure ?_
    split
    · rename_i c _ _ _ _ _
      cases (c == Value.type "enumerate")
      · wp_walk using q1
        exact ⟨_, rfl, h⟩
      · wp_walk using q1
        exact ⟨_, rfl, h⟩
    · wp_walk using q1
      exact ⟨_, rfl, h⟩
section
variable {prog : Program} {w : World} {A : Around} {E : Value → Shared → Prop} {s : Shared}
theorem enum_begins1 {v : Value} {o : Obj} {H : Heap → Prop} {Q : Value → Shared → Prop} (B : Begins v o H) (h1 : H s.heap)
    (h : ∀ h', IsEnum h' (s.heap.objs.size + 1) s.heap.objs.size 0 .none → h'.get? s.heap.objs.size = some o → h'.objs.size = s.heap.objs.size + 2 →
      (∀ b o, s.heap.get? b = some o → h'.get? b = some o) → Q (.ref (s.heap.objs.size + 1)) { s with heap := h' }) :
    wpAny (model prog w) A (call (.type "enumerate") [v]) Q E s := by
  refine callType_new F.called_enumerate (by decide) (F.typeCall_enumerate_1 _) (F.newCall_enumerate_1 _) (fun obj => F.args_object_init_2 obj _) F.entry_enumerate_new
    (meets_enumerate_new1 B) ⟨h1, ?_⟩
  have hz : (s.heap.push o).objs.size = s.heap.objs.size + 1 := Heap.size_push ..
  show _ ∧ _
  rw [hz]
  have he : IsEnum ((s.heap.push o).push { cls := .type "enumerate", data := .fields #[.none, .bool false, .ref s.heap.objs.size, rawInt 0, .none, .none] }) (s.heap.objs.size + 1) s.heap.objs.size 0 .none := by
    have := Heap.get?_push_size (s.heap.push o) (o := { cls := .type "enumerate", data := .fields #[.none, .bool false, .ref s.heap.objs.size, rawInt 0, .none, .none] }) rfl
    rw [hz] at this; exact this
  refine ⟨⟨_, he, rfl⟩, h _ he (Heap.get?_push_of_some _ (Heap.get?_push_size _ B.free)) (by rw [Heap.size_push, hz]) fun b o x => Heap.get?_push_of_some _ (Heap.get?_push_of_some _ x)⟩
end
end PySem
namespace L2
open PySem PySem.Spec PyProof.Rows
def IteT (K : PySem.W.Frag) (a : Addr) : It :=
  ⟨fun i H => ∃ (xs : List V) (x : V), SqT K H a xs ∧ xs[i]? = some x, fun i H v H' => ∃ T x, v = .ref T ∧ H T = none ∧ H' = upd H T (.tup [.int (i : Nat), x]) ∧ ∀ xs, SqT K H a xs → xs[i]? = some x, fun i H => ∃ xs : List V, SqT K H a xs ∧ xs.length ≤ i⟩
theorem turn_enumT {P : Program} {w : World} {K : PySem.W.Frag} {elts : List Expr} {kk : Nat} {tpos : Pos} (a e it : Addr) :
    Turn P w K (.Tuple elts kk tpos) (IteT K a) [e, it] e (fun i h => (∃ old, IsEnum h e it ((i : Nat) : Int) old) ∧ h.IsTupleIter it a i ∧ e ≠ it) where
  mem := by simp
  obj := fun i h st b hb => by
    obtain ⟨⟨old, he⟩, ⟨o, ho, hc, hd⟩, _⟩ := st
    have e' : b = e ∨ b = it := by simpa using hb
    rcases e' with z | z
    · rw [z]; exact ⟨_, he, fun v q => nomatch q⟩
    · rw [z]; exact ⟨o, ho, fun v q => by rw [hd] at q; cases q⟩
  keep := fun i h h' st k => let ⟨⟨old, he⟩, hi, hne⟩ := st; ⟨⟨old, k e (by simp) _ he⟩, hi.at fun o q => k it (by simp) o q, hne⟩
  item := by
    intro X hP hw hK hc i pins s σ H E I hf st hg
    subst hP hw hK
    obtain ⟨⟨old, he⟩, hit, hne⟩ := st
    obtain ⟨xs, x, hq, hx⟩ := hg
    obtain ⟨its, rv, p, hz⟩ := I.tuple hq
    obtain ⟨u, hu, ru⟩ := rv.get hx
    have pt : s.heap.IsTuple a its.toArray := p
    have hel : e < s.heap.objs.size := Heap.lt_size he
    have hil : it < s.heap.objs.size := by obtain ⟨_, q, _⟩ := hit; exact Heap.lt_size q
    have hea : e ≠ a := fun z => by
      obtain ⟨o, ho, hcl, _⟩ := pt
      rw [← z] at ho
      rw [show s.heap.get? e = some _ from he] at ho
      cases ho
      have hcl : Value.type "enumerate" = Value.type "tuple" := hcl
      exact absurd (Value.type.inj hcl) (by decide)
    have hai : a ≠ it := fun z => by
      obtain ⟨o, ho, hcl, _⟩ := pt
      obtain ⟨o2, ho2, hcl2, _⟩ := hit
      rw [z, ho2] at ho
      cases ho
      rw [hcl2] at hcl
      exact absurd hcl (by decide)
    have Dr : Draws X.prog X.w X.A.in1 it [it, a] its.toArray.size (fun i v => its.toArray[i]? = some v) (fun i h => h.IsTupleIter it a i ∧ h.IsTuple a its.toArray) := Draws.tuple (show X.A.in1.handled = none from I.ok.hd hc) it a hai its.toArray
    have hlt : i < its.toArray.size := by
      rw [List.size_toArray]
      exact (List.getElem?_eq_some_iff.mp hu).1
    refine wpAny_pyNext_enum_itemD Dr he ⟨hit, pt⟩ hlt hne (by simp [hne, hea]) fun x' h' tk hx' ho hst' hT hsz hk => ?_
    have ex : x' = u := by
      have h1 : its[i]? = some x' := by simpa using hx'
      rw [hu] at h1
      exact (Option.some.inj h1).symm
    subst ex
    refine ⟨_, rfl, wpAny_letOwnedTupleGo_enum (s := { s with heap := h', toks := tk + 1 }) ho fun h'' he' sb => ?_⟩
    have hT2 : h''.get? s.heap.objs.size = some { cls := .type "tuple", data := .seq #[.int i tk, x'] } := (sb.2 _ (Nat.ne_of_gt hel)).trans hT
    have new : ObjOk X.prog X.w (upd H s.heap.objs.size (.tup [.int (i : Nat), x])) h'' s.heap.objs.size (.tup [.int (i : Nat), x]) :=
      ⟨by show 2 ≤ sizeLine; decide, [.int i tk, x'], .cons ⟨_, rfl⟩ (.cons ru .nil), ⟨_, hT2, rfl, _, rfl⟩⟩
    have I1 : Inv X pins σ (upd H s.heap.objs.size (.tup [.int (i : Nat), x])) { s with heap := h'', toks := tk + 1 } :=
      I.turnedNew (ch := [e, it]) (fun b ob hb q => (sb.2 b (fun z => hb (by simp [z]))).trans (hk b ob (fun z => hb (by simp [z])) (fun z => hb (by simp [z])) q)) hf (Nat.le_refl _) new
    refine ⟨.ref s.heap.objs.size, _, I1, rfl, ⟨_, x, rfl, I.hok.fresh (Nat.le_refl _), rfl, fun ys hy => by rw [I.tuple_inj hy hq]; exact hx⟩, ⟨⟨x', ?_⟩, hst'.1.at fun o q => (sb.2 it (Ne.symm hne)).trans q, hne⟩, fun b hb => ?_⟩
    · have e1 : ((i + 1 : Nat) : Int) = (i : Int) + 1 := by omega
      rw [e1]; exact he'
    · have hb' : b < s.heap.objs.size := by
        have e' : b = e ∨ b = it := by simpa using hb
        rcases e' with z | z
        · rw [z]; exact hel
        · rw [z]; exact hil
      rw [upd_ne (Nat.ne_of_lt hb')]
      exact (hf b hb).1
  done := by
    intro X hP hw hK hc i pins s σ H E I hf st hg
    subst hP hw hK
    obtain ⟨⟨old, he⟩, hit, hne⟩ := st
    obtain ⟨xs, hq, hx⟩ := hg
    obtain ⟨its, rv, p, hz⟩ := I.tuple hq
    have pt : s.heap.IsTuple a its.toArray := p
    obtain ⟨f0, f1, f2, f3, f4, f5⟩ := hf it (by simp)
    have hl := rv.length
    have hai : a ≠ it := fun z => by
      obtain ⟨o, ho, hcl, _⟩ := pt
      obtain ⟨o2, ho2, hcl2, _⟩ := hit
      rw [z, ho2] at ho
      cases ho
      rw [hcl2] at hcl
      exact absurd hcl (by decide)
    have Dr : Draws X.prog X.w X.A.in1 it [it, a] i (fun i v => its.toArray[i]? = some v) (fun j h => j = i ∧ h.IsTupleIter it a i ∧ h.IsTuple a its.toArray) := {
      live := fun _ _ st => let ⟨o, ho, _⟩ := st.2.1; ⟨o, ho⟩
      frame := fun _ _ _ st hk => ⟨st.1, st.2.1.at fun o e => hk it (by simp) o e, st.2.2.at fun o e => hk a (by simp) o e⟩
      item := fun i' s' Q E' hi st hQ => by have := st.1; omega
      done := fun s' Q E' st hE => wpAny_nextOf_tuple_end (show X.A.in1.handled = none from I.ok.hd hc) st.2.1 st.2.2 (by simp; omega) hE }
    exact wpAny_pyNext_enum_endD Dr he ⟨rfl, hit, pt⟩ fun h' eb => ⟨rfl, I.turned (t' := s.toks) (fun b o hb q => eb b o hb q) f0 f1 f3 f4 f5⟩
  self := fun A i s Q E st h => let ⟨⟨_, he⟩, _⟩ := st; wpAny_pyIter_enum he h
def iEnumT (K : PySem.W.Frag) (ta : TA) : TI := fun σ H R => ta σ H fun vs H1 => ∃ a xs, vs = [.ref a] ∧ SqT K H1 a xs ∧ R (IteT K a) H1
theorem pi_enumT {X : Cx} {e : Expr} {ta : TA} {p pos tpos : Pos} {elts : List Expr} {kk : Nat} (hg : Gl X "enumerate") (hm : X.mg "enumerate" = none) (ha : PA X [e] ta) (hs : starEach [e] X.env = [(false, eval e X.env)] := by rfl) :
    PI X (.Tuple elts kk tpos) (.Call (.Name "enumerate" p) [e] [] pos) (iEnumT X.K ta) := by
  refine ⟨fun pins s σ H R I h => ?_⟩
  refine Call_ (ld_blt I hg hm boot_enumerate (PyProof.Rows.callWith_type1 (thn (ha.run pos pins s σ H _ I h) fun us s1 ⟨vs, H1, I1, r1, q1⟩ => ?_) hs rfl))
  obtain ⟨a, xs, ex, hq, q⟩ := q1
  subst ex
  cases r1 with
  | cons r rr =>
    cases rr
    cases r
    obtain ⟨its, rv, p', hz⟩ := I1.tuple hq
    refine enum_begins1 (begins_tuple a its.toArray) (show s1.heap.IsTuple a its.toArray from p') fun h' he hit hsz hk => wpAny_pyIter_enum he ?_
    have I2 : Inv X pins σ H1 { s1 with heap := h' } := I1.kept (t' := s1.toks) hk
    refine ⟨s1.heap.objs.size + 1, [s1.heap.objs.size + 1, s1.heap.objs.size], _, _, H1, rfl, I2, turn_enumT a (s1.heap.objs.size + 1) s1.heap.objs.size, ⟨⟨.none, he⟩, ⟨_, hit, rfl, rfl⟩, Nat.succ_ne_self _⟩, fun b hb => ?_, q⟩
    have e' : b = s1.heap.objs.size + 1 ∨ b = s1.heap.objs.size := by simpa using hb
    have hle : s1.heap.objs.size ≤ b := by
      rcases e' with z | z
      · rw [z]; exact Nat.le_add_right _ _
      · rw [z]; exact Nat.le_refl _
    exact I1.fpOk hle (I1.hok.fresh hle)
end L2
namespace DL
open PySem PySem.Spec PyProof.Rows L2
def rEnumT (a : RA) : RA := fun δ S => (a δ S).bind fun xs S1 => match xs with
  | [.tup ds] => .ok (enumD 0 ds) S1
  | _ => .stuck
section
variable {wd : World} {K : Fg} {mg : Str → Option Value} {α : List Addr} {F H : Hp} {S : Sto}
theorem it_enumT {l : Addr} {us : List V} {ds : List D} (h : SqT K F l us) (hv : DVs wd K mg F α us ds) : ItOk wd K mg F α (IteT K l) (enumD 0 ds) where
  go := fun F' H' i a b hi => by
    rw [enumD_len] at hi
    obtain ⟨v, e1, _⟩ := hv.get (List.getElem?_eq_getElem hi)
    exact ⟨us, v, (a.trans b).sqT h, e1⟩
  stop := fun F' H' a b => ⟨us, (a.trans b).sqT h, by rw [enumD_len, hv.length]; exact Nat.le_refl _⟩
  yld := fun F' H' H2 i x d a b hd ⟨T, y, e1, e2, e3, e4⟩ => by
    have f1 := e4 us ((a.trans b).sqT h)
    obtain ⟨p, e6, rfl⟩ := enumD_get hd
    obtain ⟨v, e8, e9⟩ := hv.get e6
    rw [f1] at e8; cases e8
    subst e1
    have nF : F' T = none := by
      cases z : F' T with
      | none => rfl
      | some u => rw [b _ _ z] at e2; cases e2
    have sb := a.trans (Sub.new (o := .tup [.int (i : Nat), y]) nF)
    refine .inr ⟨T, _, e2, e3, .tux (SqT.of upd_same) (.cons ?_ (.cons ?_ .nil))⟩
    · rw [Nat.zero_add]; exact .int _
    · have := e9.mono (β := []) sb
      rw [List.append_nil] at this; exact this
end
section
variable {X : Cx} {W : WX} {e : Expr} {rs : RA} {pos p : Pos}
theorem pid_enumT {elts : List Expr} {kk : Nat} {tpos : Pos} (hm : X.mg "enumerate" = none) (ha : PDs X W [e] rs) (hg : Gl X "enumerate" := by rfl) (hs : starEach [e] X.env = [(false, eval e X.env)] := by rfl) : PId X W (.Tuple elts kk tpos) (.Call (.Name "enumerate" p) [e] [] pos) (rEnumT rs) := by
  obtain ⟨t, p1, s1⟩ := ha.ex
  refine ⟨_, pi_enumT hg hm p1 hs, fun α F σ H δ S Q hr hs h => ?_⟩
  refine s1 α F σ H δ S _ hr hs (wp.bind h fun ds S1 e1 xs H1 β F1 r1 q1 v1 h1 => ?_)
  have hl := ha.len _ _ _ _ e1
  match ds, hl with
  | [d], _ =>
    cases v1 with
    | cons v1 vn =>
      cases vn
      cases d with
      | tup ys =>
        cases v1 with
        | tup a1 a2 => exact ⟨_, _, rfl, r1.sub.sqT a1.1, h1.now r1 (it_enumT a1.1 a2)⟩
      | _ => exact h1.elim
end
end DL

set_option Elab.async false
set_option linter.all false
set_option maxRecDepth 100000
set_option maxHeartbeats 4000000
set_option autoImplicit false
/-! t[:0:-1] of a tuple that is not empty. -/
namespace DL
open PySem PySem.Spec PyProof.Rows L2
section
variable {prog : Program} {w : World} {A : Around} {E : Value → Shared → Prop} {s : Shared}
theorem places_rev0 (n : Nat) (hn : 1 ≤ n) : Builtin.Slice.slicePlaces ((n : Int) - 1) 0 (-1) = n - 1 := by
  unfold Builtin.Slice.slicePlaces
  have h1 : ¬ ((-1 : Int) > 0) := by decide
  simp only [h1, if_false]
  by_cases h : (n : Int) - 1 > 0
  · rw [if_pos h]
    have e : ((n : Int) - 1 - 0 - 1) / (- -1) + 1 = ((n - 1 : Nat) : Int) := by
      rw [show (- -1 : Int) = 1 by decide, Int.ediv_one]
      omega
    rw [e, Int.toNat_natCast]
  · rw [if_neg h]
    have e : n = 1 := by omega
    subst e
    rfl
theorem rev_places0 (items : Array Value) (hn : 1 ≤ items.size) : (List.range (items.size - 1)).filterMap (fun (m : Nat) => items[((items.size : Int) - 1 + (m : Int) * -1).toNat]?) = items.toList.tail.reverse := by
  have h := rev_places items
  have e : items.size = (items.size - 1) + 1 := by omega
  obtain ⟨a, r, q⟩ : ∃ a r, items.toList = a :: r := by
    cases q : items.toList with
    | nil => rw [← Array.length_toList, q] at hn; simp at hn
    | cons a r => exact ⟨a, r, rfl⟩
  rw [e, List.range_succ, List.filterMap_append] at h
  rw [← e] at h
  have h0 : ([items.size - 1].filterMap fun (m : Nat) => items[((items.size : Int) - 1 + (m : Int) * -1).toNat]?) = [a] := by
    have e1 : ((items.size : Int) - 1 + ((items.size - 1 : Nat) : Int) * -1).toNat = 0 := by omega
    have e2 : items[0]? = some a := by rw [← Array.getElem?_toList, q]; rfl
    rw [List.filterMap_cons, e1, e2]
    rfl
  rw [h0, q, List.reverse_cons] at h
  rw [q, List.tail_cons]
  exact (List.append_inj' h rfl).1
open HT in
theorem getItem_tuple_rev0 {t sl : Addr} {items : Array Value} {vu vk : Value} {Q : Value → Shared → Prop} (ht : IsTup s.heap t items) (hs : s.heap.IsSliceOf sl .none vu vk) (pu : IsPart vu (some 0)) (pk : IsPart vk (some (-1))) (hn : 1 ≤ items.size)
    (h : Q (.ref s.heap.objs.size) { s with heap := s.heap.push { cls := .type "tuple", data := .seq items.toList.tail.reverse.toArray } })
    (hsz : items.size ≤ sizeLine) : wpAny (model prog w) A (getItem (.ref t) (.ref sl)) Q E s := by
  have htake : sizeOk (.seq items.toList.tail.reverse.toArray) := by
    show items.toList.tail.reverse.toArray.size ≤ sizeLine
    rw [List.size_toArray, List.length_reverse, List.length_tail, Array.length_toList]
    omega
  obtain ⟨os, hos, hcs, hds⟩ := id hs
  have hTs : s.TypeIs (.ref sl) "slice" := ⟨os, hos, hcs⟩
  unfold getItem
  try with_reducible refine wpAny_holding ?_
  first | refine wpAny_bind (wpAny_pure ?_) | skip
  refine wpAny_bind (wpAny_sequenceKey ht.typeIs (by decide) ?_)
  refine wpAny_bind (wpAny_callSpecial?_slot (name := Str.ofString "__getitem__") ht.typeIs PyProof.Rows.slot_tuple_getitem
    (wpAny_call_entry PyProof.Rows.slot_tuple_getitem ht.typeIs entry_tuple_getitem ?_ (args_tuple_getitem _ _)))
  show wpAny _ _ (Builtin.Tuple.tupleItemsOf (.ref t) >>= _) _ _ s
  refine wpAny_bind (tupleItemsOf_ ht ?_)
  refine wpAny_bind (wpAny_typeOf hTs ?_)
  rw [if_pos (by decide)]
  have ap : ∀ {R : Int × Int × Nat → Shared → Prop}, R ((items.size : Int) - 1, -1, items.size - 1) s → wpAny (model prog w) A.in1 (Builtin.Slice.sliceApplied (.ref sl) (pure (items.size : Int))) R E s := by
    intro R hR
    unfold Builtin.Slice.sliceApplied Builtin.Slice.sliceFields
    refine wpAny_bind (wpAny_bind (wpAny_field hos hds (x := .none) rfl (wpAny_bind (wpAny_field hos hds (x := vu) rfl (wpAny_bind (wpAny_field hos hds (x := vk) rfl (wpAny_pure ?_)))))))
    refine wpAny_bind (slicePart_ pk ?_)
    show wpAny _ _ (if ((-1 : Int) == 0) = true then _ else _) _ _ s
    rw [if_neg (by decide)]
    refine wpAny_bind (slicePart_none (wpAny_bind (slicePart_ pu (wpAny_bind (wpAny_pure ?_)))))
    have e0 : Builtin.Slice.sliceAdjust none (some 0) ((some (-1 : Int)).getD 1) (items.size : Int) = ((items.size : Int) - 1, 0) := by
      have hge : (0 : Int) < (items.size : Int) := by omega
      simp [Builtin.Slice.sliceAdjust]
      omega
    rw [e0]
    show wpAny _ _ (pure ((items.size : Int) - 1, (-1 : Int), Builtin.Slice.slicePlaces ((items.size : Int) - 1) 0 (-1))) _ _ s
    rw [places_rev0 _ hn]
    exact wpAny_pure hR
  refine wpAny_bind (ap ?_)
  have hno : ¬ ((((items.size : Int) - 1) == 0 && (-1 : Int) == 1 && (items.size - 1) == items.size) = true) := by
    intro q
    rw [Bool.and_eq_true, Bool.and_eq_true] at q
    exact absurd q.1.2 (by decide)
  show wpAny _ _ (if (((items.size : Int) - 1) == 0 && (-1 : Int) == 1 && (items.size - 1) == items.size) = true then _ else _) _ _ s
  rw [if_neg hno, rev_places0 _ hn]
  first
    | exact wpAny_bind (m := Builtin.Tuple.tupleExact _) (wpAny_newObj_type (wpAny_pure ⟨_, rfl, wpAny_pure h⟩) htake)
    | exact wpAny_bind (m := Builtin.Tuple.tupleExact _) (wpAny_newObj_type (wpAny_bind (wpAny_pure (wpAny_pure ⟨_, rfl, wpAny_pure h⟩))) htake)
    | exact wpAny_bind (wpAny_bind (m := Builtin.Tuple.tupleExact _) (wpAny_newObj_type (wpAny_pure (wpAny_pure ⟨_, rfl, wpAny_pure h⟩)) htake))
    | exact wpAny_bind (wpAny_bind (m := Builtin.Tuple.tupleExact _) (wpAny_newObj_type (wpAny_pure ⟨_, rfl, wpAny_pure h⟩) htake))
end
section
variable {X : Cx}
def rSlT0 (K : PySem.W.Frag) : V → Option Int → Option Int → Int → Hp → VK → Prop := fun x lo hi k H Q => ∃ a xs, x = .ref a ∧ SqT K H a xs ∧ xs ≠ [] ∧ lo = none ∧ hi = some 0 ∧ k = -1 ∧ TLays H xs.tail.reverse Q
theorem sl_tup0 : SlRs X (rSlT0 X.K) := by
  intro pins s σ H x v vl vu vk lo hi k sl Q I rx hs pl pu pk h
  obtain ⟨a, xs, rfl, hx, hne, rfl, rfl, rfl, q⟩ := h
  cases rx
  obtain ⟨its, r, ht, hz⟩ := I.tuple hx
  cases pl
  have hlen := r.length
  have h1 : 1 ≤ xs.length := by cases xs with | nil => exact absurd rfl hne | cons _ _ => exact Nat.succ_le_succ (Nat.zero_le _)
  refine ⟨"tuple", _, PyProof.Rows.slot_tuple_getitem.lookup, ht.typeIs, ?_⟩
  refine getItem_tuple_rev0 ht hs pu pk (by rw [List.size_toArray, ← hlen]; exact h1) ?_ (by rw [List.size_toArray, ← r.length]; exact hz)
  have rr : Vals xs.tail.reverse its.tail.reverse := by
    refine Vals.reverse ?_
    cases r with
    | nil => exact .nil
    | cons _ t => exact t
  exact ⟨.ref s.heap.objs.size, _, I.laid (t' := s.toks) (o := .frz (tupObj its.tail.reverse.toArray) (.tup xs.tail.reverse)) (fun b ob q => Heap.get?_push_of_some _ q) (Nat.le_refl _) (tup_frz (by rw [List.length_reverse, List.length_tail]; omega) rr), rfl, q _ (I.hok.fresh (Nat.le_refl _)) _ rfl⟩
end
/-- t[:0:-1] -/
def rStep0 (a : RE) (l h k : RO) : RE := fun δ S => (a δ S).bind fun d S1 => (l δ S1).bind fun i S2 => (h δ S2).bind fun j S3 => (k δ S3).bind fun z S4 => match z with
  | some n => (match deref S4 d with
    | .tup xs => if xs.isEmpty = false ∧ i = none ∧ j = some 0 ∧ n = -1 then .ok (.tup xs.tail.reverse) S4 else .stuck
    | _ => .stuck)
  | none => .stuck
section
variable {X : Cx} {W : WX} {a st : Expr} {ra : RE} {pos p2 : Pos} {lo hi : Option Expr} {ol oh ok : RO} {wd : World} {K : Fg} {mg : Str → Option Value} {α : List Addr} {F : Hp}
theorem DVs.tl {us : List V} {xs : List D} (h : DVs wd K mg F α us xs) : DVs wd K mg F α us.tail xs.tail := by
  cases h with
  | nil => exact .nil
  | cons _ t => exact t
theorem pd_step0 (ha : PD X W a ra) (hl : POd X W lo ol) (hh : POd X W hi oh) (hk : POd X W (some st) ok) : PD X W (.Subscript a (.Slice lo hi (some st) p2) pos) (rStep0 ra ol oh ok) := by
  obtain ⟨ta, pa, sa⟩ := ha.ex
  obtain ⟨tl, pl, sl⟩ := hl.ex
  obtain ⟨th, ph, sh⟩ := hh.ex
  obtain ⟨tk, pk, sk⟩ := hk.ex
  refine ⟨_, pe_sliceS sl_tup0 pa pl ph pk, fun α F σ H δ S Q hr hs h => ?_⟩
  refine sa α F σ H δ S _ hr hs (wp.bind h fun d S1 _ x H1 β F1 r1 q1 v1 h1 => ?_)
  refine sl (α ++ β) F1 σ H1 δ S1 _ r1 (hs.mono q1.sub) (wp.bind h1 fun i S2 _ i' H2 γ F2 r2 q2 v2 h2 => ?_)
  have v2 : i' = i := v2
  subst v2
  refine sh (α ++ β ++ γ) F2 σ H2 δ S2 _ r2 ((hs.mono q1.sub).mono q2.sub) (wp.bind h2 fun j S3 _ j' H3 ε F3 r3 q3 v3 h3 => ?_)
  have v3 : j' = j := v3
  subst v3
  refine sk (α ++ β ++ γ ++ ε) F3 σ H3 δ S3 _ r3 (((hs.mono q1.sub).mono q2.sub).mono q3.sub) (wp.bind h3 fun k S4 _ k' H4 ζ F4 r4 q4 v4 h4 => ?_)
  have v4 : k' = k := v4
  subst v4
  have vx := ((v1.mono (β := γ) q2.sub).mono (β := ε) q3.sub).mono (β := ζ) q4.sub
  cases k' with
  | none => exact h4.elim
  | some n =>
  dsimp only at h4
  split at h4
  · rename_i xs e1
    split at h4
    · rename_i hc
      obtain ⟨g0, g1, g2, g3⟩ := hc
      obtain ⟨l, us, rfl, a1, a2⟩ := r4.viewT vx e1
      refine ⟨n, rfl, ⟨l, us, rfl, a1, fun z => ?_, g1, g2, g3, fun p hp o ho => ?_⟩⟩
      · subst z
        cases a2
        exact absurd g0 (by decide)
      · obtain ⟨c1, c2, c3⟩ := r4.tup a2.tl.reverse hp ho
        exact h4 _ _ _ _ c1 c2 c3
    · exact h4.elim
  · exact h4.elim
end
end DL

set_option Elab.async false
set_option linter.all false
set_option maxRecDepth 100000
set_option maxHeartbeats 4000000
set_option autoImplicit false
/-! xs.count(n) of ints. -/
namespace L2
open PySem PySem.Spec PyProof.Rows
theorem mt_countI {X : Cx} : MtR X "list.count" (fun x xs H Q => ∃ (a : Addr) (ns : List Int) (k : Int), x = .ref a ∧ xs = [.int k] ∧ SqL X.K H a (ns.map V.int) ∧ Q (.int (ns.count k : Nat)) H) := by
  intro pins s σ H x xs v us Q I rx rv h
  obtain ⟨a, ns, k, rfl, rfl, hs, q⟩ := h
  cases rx
  obtain ⟨u, rfl, ru⟩ := vals1 rv
  obtain ⟨t, rfl⟩ := ru
  obtain ⟨its, r, hl, hz⟩ := I.list hs
  exact count_list_ints hl.isList r.ints ⟨.int (ns.count k : Nat), H, I.tok _, ⟨_, rfl⟩, q⟩
end L2
namespace DL
open PySem PySem.Spec PyProof.Rows L2
def intsD : List D → Option (List Int)
  | [] => some []
  | .int i :: r => (intsD r).map (i :: ·)
  | _ => none
theorem intsD_map : ∀ ns : List Int, intsD (ns.map D.int) = some ns
  | [] => rfl
  | i :: r => by
    show (intsD (r.map D.int)).map (i :: ·) = _
    rw [intsD_map r]
    rfl
def gCountI : Sto → D → List D → Option D := fun S d ds => match deref S d, ds with
  | .lst xs, [.int k] => (intsD xs).map fun ns => .int (ns.count k : Nat)
  | _, _ => none
section
variable {X : Cx} {wd : World} {K : Fg} {mg : Str → Option Value} {F : Hp} {α : List Addr}
theorem intsD_of : ∀ {xs : List D} {ns : List Int} {us : List V}, intsD xs = some ns → DVs wd K mg F α us xs → us = ns.map V.int
  | [], ns, us, e, h => by cases e; cases h; rfl
  | d :: r, ns, us, e, h => by
    cases d with
    | int i =>
      obtain ⟨ms, e2, rfl⟩ := Option.map_eq_some_iff.mp (show (intsD r).map (i :: ·) = some ns from e)
      cases h with
      | cons h1 h2 =>
        cases h1
        rw [intsD_of e2 h2]
        rfl
    | _ => cases e
theorem m_countI : MdG X "list.count" (pureM gCountI) := mdg_pure mt_countI fun α F H S x xs d ds z Q hr hx hv hz q => by
  unfold gCountI at hz
  split at hz
  · rename_i ys k e1
    obtain ⟨ns, e2, rfl⟩ := Option.map_eq_some_iff.mp hz
    cases hv with
    | cons h1 h2 =>
      cases h2
      cases h1
      obtain ⟨l, us, rfl, a1, a2⟩ := hr.viewL hx e1
      have eu := intsD_of e2 a2
      subst eu
      exact ⟨l, ns, k, rfl, rfl, a1, fin_now hr (.int _) q⟩
  · cases hz
end
end DL

set_option Elab.async false
set_option linter.all false
set_option maxRecDepth 100000
set_option maxHeartbeats 0
set_option autoImplicit false
namespace DL
open PySem L2
def b_poly_at : RS := (sSeq (sAsg (rC (.int 0)) (gName 2))
    (sSeq (sFor (rSeq (rStep (rVar 0) oNone oNone (oSome (rUn gNeg (rC (.int 1)))))) (gName 3) (sAsg (rBin gAdd (rBin gMul (rVar 2) (rVar 1)) (rVar 3)) (gName 2)))
    (sRet (rVar 2))))
def m_poly_at : Mir := mDef 4 b_poly_at
def b_slope_of : RS := (sRet (rAs gTuple (rCons (rCut (rKeep (rLc (rEnumT (rCons (rVar 0) rNil)) (gTup (gCons (gName 1) (gCons (gName 2) gNil))) [1, 2] bYes (rBin gMul (rVar 1) (rVar 2)))) (oSome (rC (.int 1))) oNone) rNil)))
def m_slope_of : Mir := mDef 3 b_slope_of
def fuel_crossed_0 : Sl → Sto → Nat := fun δ _ => natAt δ 2 + natAt δ 1 + 1
def b_crossed : RS := (sSeq (sAsg (rBin gLtU (rCall m_poly_at (rCons (rVar 0) (rCons (rVar 1) rNil))) (rC (.int 0))) (gName 3))
    (sSeq (sWhile fuel_crossed_0 (bVal (rBin gGtU (rBin gSub (rVar 2) (rVar 1)) (rC (.int 1)))) (sSeq (sAsg (rBin gDiv (rBin gAdd (rVar 1) (rVar 2)) (rC (.int 2))) (gName 4))
    (sIf (bVal (rBin gEq (rBin gLtU (rCall m_poly_at (rCons (rVar 0) (rCons (rVar 4) rNil))) (rC (.int 0))) (rVar 3))) (sAsg (rVar 4) (gName 1)) (sAsg (rVar 4) (gName 2)))))
    (sRet (rVar 1))))
def m_crossed : Mir := mDef 5 b_crossed
def b_spots_between : RS := (sSeq (sAsg (rOwn (rC (.dct []))) (gName 3))
    (sSeq (sAsg (rOwn (rDisp [((rBin gSub (rC (.int 0)) (rVar 2)), (rC (.bl true))), ((rVar 2), (rC (.bl true)))])) (gName 4))
    (sSeq (sFor (rSeq (rVar 1)) (gName 5) (sSeq (sPutU (rVar 3) (rVar 5) (rC (.bl true)))
    (sExpr (rUpd (rVar 4) (rOwn (rDisp [((rVar 5), (rC (.bl true))), ((rBin gAdd (rVar 5) (rC (.int 1))), (rC (.bl true)))]))))))
    (sSeq (sAsg (rKeep (rAs gSortKeysI (rCons (rVar 4) rNil))) (gName 6))
    (sSeq (sFor (rZipA (rCons (rVar 6) (rCons (rCut (rVar 6) (oSome (rC (.int 1))) oNone) rNil))) (gTup (gCons (gName 7) (gCons (gName 8) gNil))) (sIf (bOr (bVal (rBin gEq (rCall m_poly_at (rCons (rVar 0) (rCons (rVar 7) rNil))) (rC (.int 0)))) (bVal (rBin gEq (rCall m_poly_at (rCons (rVar 0) (rCons (rVar 8) rNil))) (rC (.int 0))))) (sExpr (rUpd (rVar 3) (rOwn (rDisp [((rVar 7), (rC (.bl true))), ((rVar 8), (rC (.bl true)))])))) (sIf (bVal (rBin gNe (rBin gLtU (rCall m_poly_at (rCons (rVar 0) (rCons (rVar 7) rNil))) (rC (.int 0))) (rBin gLtU (rCall m_poly_at (rCons (rVar 0) (rCons (rVar 8) rNil))) (rC (.int 0))))) (sPutU (rVar 3) (rCall m_crossed (rCons (rVar 0) (rCons (rVar 7) (rCons (rVar 8) rNil)))) (rC (.bl true))) sNext)))
    (sRet (rKeep (rAs gSortKeysI (rCons (rVar 3) rNil)))))))))
def m_spots_between : Mir := mDef 9 b_spots_between
def fuel_spots_of_0 : Sl → Sto → Nat := fun _ _ => 100
def b_spots_of : RS := (sSeq (sAsg (rOwn (rLst (rCons (rVar 0) rNil))) (gName 2))
    (sSeq (sWhile fuel_spots_of_0 (bVal (rBin gGtU (rAs gLen (rCons (rBin gIx (rVar 2) (rUn gNeg (rC (.int 1)))) rNil)) (rC (.int 2)))) (sExpr (rMeth "list" mAppend (rVar 2) (rCons (rCall m_slope_of (rCons (rBin gIx (rVar 2) (rUn gNeg (rC (.int 1)))) rNil)) rNil))))
    (sSeq (sAsg (rMeth "list" mPop (rVar 2) rNil) (gName 3))
    (sSeq (sAsg (rKeep (rLst (rCons (rBin gDiv (rBin gSub (rC (.int 0)) (rBin gIx (rVar 3) (rC (.int 0)))) (rBin gIx (rVar 3) (rC (.int 1)))) rNil))) (gName 4))
    (sSeq (sFor (rSeq (rStep (rVar 2) oNone oNone (oSome (rUn gNeg (rC (.int 1)))))) (gName 5) (sAsg (rCall m_spots_between (rCons (rVar 5) (rCons (rVar 4) (rCons (rVar 1) rNil)))) (gName 4)))
    (sRet (rVar 4)))))))
def m_spots_of : Mir := mDef 6 b_spots_of
def b_divided : RS := (sSeq (sAsg (rOwn (rLst rNil)) (gName 2))
    (sSeq (sAsg (rC (.int 0)) (gName 3))
    (sSeq (sFor (rSeq (rStep0 (rVar 0) oNone (oSome (rC (.int 0))) (oSome (rUn gNeg (rC (.int 1)))))) (gName 4) (sSeq (sAsg (rBin gAdd (rBin gMul (rVar 3) (rVar 1)) (rVar 4)) (gName 3))
    (sExpr (rMeth "list" mInsert (rVar 2) (rCons (rC (.int 0)) (rCons (rVar 3) rNil))))))
    (sRet (rAs gTuple (rCons (rVar 2) rNil))))))
def m_divided : Mir := mDef 5 b_divided
def fuel_whole_roots_0 : Sl → Sto → Nat := fun _ _ => 100
def b_whole_roots : RS := (sSeq (sAsg (rBin gAdd (rC (.int 1)) (rAs gMax (rCons (rKeep (rLc (rSeq (rVar 0)) (gName 7) [7] bYes (rAs gAbs (rCons (rVar 7) rNil)))) rNil))) (gName 1))
    (sSeq (sAsg (rOwn (rC (.dct []))) (gName 2))
    (sSeq (sFor (rSeq (rCall m_spots_of (rCons (rVar 0) (rCons (rVar 1) rNil)))) (gName 3) (sExpr (rUpd (rVar 2) (rOwn (rDisp [((rVar 3), (rC (.bl true))), ((rBin gAdd (rVar 3) (rC (.int 1))), (rC (.bl true)))])))))
    (sSeq (sAsg (rOwn (rLst rNil)) (gName 4))
    (sSeq (sFor (rSeq (rKeep (rAs gSortKeysI (rCons (rVar 2) rNil)))) (gName 5) (sSeq (sAsg (rC (.int 0)) (gName 6))
    (sSeq (sWhile fuel_whole_roots_0 (bAnd (bVal (rBin gGtU (rAs gLen (rCons (rVar 0) rNil)) (rC (.int 1)))) (bVal (rBin gEq (rCall m_poly_at (rCons (rVar 0) (rCons (rVar 5) rNil))) (rC (.int 0))))) (sSeq (sAsg (rCall m_divided (rCons (rVar 0) (rCons (rVar 5) rNil))) (gName 0))
    (sAsg (rBin gAdd (rVar 6) (rC (.int 1))) (gName 6))))
    (sIf (bVal (rBin gGtU (rVar 6) (rC (.int 0)))) (sExpr (rMeth "list" mAppend (rVar 4) (rCons (rTup (rCons (rVar 5) (rCons (rVar 6) rNil))) rNil))) sNext))))
    (sRet (rAs gTuple (rCons (rVar 4) rNil))))))))
def m_whole_roots : Mir := mDef 8 b_whole_roots
def b__law_mixed : RS := (sSeq (sAsg (rBin gMod (rBin gMul (rBin gAdd (rBin gAdd (rBin gMod (rVar 0) (rC (.int 1000000007))) (rBin gMul (rC (.int 7919)) (rVar 1))) (rC (.int 13))) (rC (.int 48271))) (rC (.int 2147483647))) (gName 2))
    (sRet (rBin gDiv (rBin gMod (rBin gMul (rVar 2) (rVar 2)) (rC (.int 2147483629))) (rC (.int 3)))))
def m__law_mixed : Mir := mDef 3 b__law_mixed
def b__law_begun : RS := (sSeq (sAsg (rOr (rStep (rVar 0) (oSome (rVar 1)) oNone (oSome (rVar 2))) (rKeep (rLst (rCons (rVar 1) rNil)))) (gName 3))
    (sSeq (sAsg (rAs gMax (rCons (rVar 3) rNil)) (gName 4))
    (sRet (rOwn (rDisp [((rC (.str "rest")), (rBin gMul (rVar 4) (rAs gInt (rCons (rBin gGeU (rVar 4) (rBin gPow (rC (.int 10)) (rC (.int 18)))) rNil)))), ((rC (.str "mixed")), (rCall m__law_mixed (rCons (rCall m__law_mixed (rCons (rAs gSum (rCons (rVar 3) rNil)) (rCons (rVar 1) rNil))) (rCons (rAs gLen (rCons (rVar 3) rNil)) rNil))))])))))
def m__law_begun : Mir := mDefK 5 b__law_begun
def b__law_next : RS := (sSeq (sIf (bVal (rBin gGtU (rBin gGetU (rVar 0) (rC (.str "rest"))) (rC (.int 0)))) (sSeq (sAsg (rBin gMod (rBin gGetU (rVar 0) (rC (.str "rest"))) (rVar 1)) (gName 2))
    (sSeq (sPutU (rVar 0) (rC (.str "rest")) (rBin gDiv (rBin gGetU (rVar 0) (rC (.str "rest"))) (rVar 1)))
    (sRet (rVar 2)))) sNext)
    (sSeq (sPutU (rVar 0) (rC (.str "mixed")) (rCall m__law_mixed (rCons (rCall m__law_mixed (rCons (rBin gGetU (rVar 0) (rC (.str "mixed"))) (rCons (rVar 1) rNil))) (rCons (rC (.int 5)) rNil))))
    (sRet (rBin gMod (rBin gGetU (rVar 0) (rC (.str "mixed"))) (rVar 1)))))
def m__law_next : Mir := mDef 3 b__law_next
def fuel__law_around_0 : Sl → Sto → Nat := fun _ _ => 100
def b__law_around : RS := (sSeq (sIf (bVal (rBin gLtU (rVar 1) (rC (.int 500000)))) (sRet (rBin gSub (rCall m__law_next (rCons (rVar 0) (rCons (rBin gAdd (rBin gMul (rC (.int 2)) (rVar 1)) (rC (.int 1))) rNil))) (rVar 1))) sNext)
    (sSeq (sAsg (rTup (rCons (rC (.int 0)) (rCons (rC (.int 1)) rNil))) (gTup (gCons (gName 2) (gCons (gName 3) gNil))))
    (sSeq (sWhile fuel__law_around_0 (bVal (rBin gLtU (rVar 3) (rBin gAdd (rBin gMul (rC (.int 2)) (rVar 1)) (rC (.int 1))))) (sPar 2 3 (rCons (rBin gAdd (rBin gMul (rVar 2) (rC (.int 1000000))) (rCall m__law_next (rCons (rVar 0) (rCons (rC (.int 1000000)) rNil)))) (rCons (rBin gMul (rVar 3) (rC (.int 1000000))) rNil))))
    (sRet (rBin gSub (rBin gMod (rVar 2) (rBin gAdd (rBin gMul (rC (.int 2)) (rVar 1)) (rC (.int 1)))) (rVar 1))))))
def m__law_around : Mir := mDef 4 b__law_around
def b__law_root : RS := (sSeq (sIf (bAnd (bVal (rBin gNe (rVar 1) (rKeep (rLst rNil)))) (bVal (rBin gEq (rCall m__law_next (rCons (rVar 0) (rCons (rC (.int 3)) rNil))) (rC (.int 0))))) (sRet (rBin gAdd (rBin gMul (rBin gIx (rVar 1) (rCall m__law_next (rCons (rVar 0) (rCons (rAs gLen (rCons (rVar 1) rNil)) rNil)))) (rBin gIx (rKeep (rLst (rCons (rC (.int 1)) (rCons (rC (.int 1)) (rCons (rUn gNeg (rC (.int 1))) rNil))))) (rCall m__law_next (rCons (rVar 0) (rCons (rC (.int 3)) rNil))))) (rBin gIx (rKeep (rLst (rCons (rC (.int 0)) (rCons (rC (.int 0)) (rCons (rC (.int 1)) rNil))))) (rCall m__law_next (rCons (rVar 0) (rCons (rC (.int 3)) rNil)))))) sNext)
    (sRet (rCall m__law_around (rCons (rVar 0) (rCons (rBin gIx (rKeep (rLst (rCons (rC (.int 2)) (rCons (rC (.int 3)) (rCons (rC (.int 20)) (rCons (rBin gPow (rC (.int 10)) (rC (.int 6))) (rCons (rBin gPow (rC (.int 10)) (rC (.int 30))) rNil))))))) (rCall m__law_next (rCons (rVar 0) (rCons (rC (.int 5)) rNil)))) rNil)))))
def m__law_root : Mir := mDef 2 b__law_root
def b__law_product : RS := (sSeq (sAsg (rOwn (rBin gRepF (rLst (rCons (rC (.int 0)) rNil)) (rBin gSub (rBin gAdd (rAs gLen (rCons (rVar 0) rNil)) (rAs gLen (rCons (rVar 1) rNil))) (rC (.int 1))))) (gName 2))
    (sSeq (sFor (rEnum (rCons (rVar 0) rNil)) (gTup (gCons (gName 3) (gCons (gName 4) gNil))) (sFor (rEnum (rCons (rVar 1) rNil)) (gTup (gCons (gName 5) (gCons (gName 6) gNil))) (sSetL (rVar 2) (rBin gAdd (rVar 3) (rVar 5)) (rBin gAdd (rBin gIx (rVar 2) (rBin gAdd (rVar 3) (rVar 5))) (rBin gMul (rVar 4) (rVar 6))))))
    (sSeq (sFreeze 2)
    (sRet (rVar 2)))))
def m__law_product : Mir := mDef 7 b__law_product
def b_law : RS := (sSeq (sFor (rEnum (rCons (rCut (rOr (rVar 0) (rKeep (rLst (rCons (rC (.int 4)) rNil)))) oNone (oSome (rC (.int 8)))) rNil)) (gTup (gCons (gName 1) (gCons (gName 2) gNil))) (sSeq (sAsg (rCall m__law_begun (rCons (rKeep (rBin gCat (rKeep (rLst (rCons (rVar 2) rNil))) (rVar 0))) (rCons (rC (.int 0)) (rCons (rBin gAdd (rC (.int 2)) (rVar 1)) rNil)))) (gName 3))
    (sSeq (sAsg (rOwn (rLst rNil)) (gName 4))
    (sSeq (sFor (rRange (rCons (rCall m__law_next (rCons (rVar 3) (rCons (rC (.int 6)) rNil))) rNil)) (gName 5) (sExpr (rMeth "list" mAppend (rVar 4) (rCons (rCall m__law_root (rCons (rVar 3) (rCons (rVar 4) rNil))) rNil))))
    (sSeq (sFreeze 4)
    (sSeq (sAsg (rKeep (rLst (rCons (rC (.int 1)) rNil))) (gName 6))
    (sSeq (sFor (rSeq (rVar 4)) (gName 7) (sAsg (rCall m__law_product (rCons (rVar 6) (rCons (rKeep (rLst (rCons (rBin gSub (rC (.int 0)) (rVar 7)) (rCons (rC (.int 1)) rNil)))) rNil))) (gName 6)))
    (sSeq (sAsg (rKeep (rLst (rCons (rKeep (rLst (rCons (rC (.int 1)) (rCons (rC (.int 0)) (rCons (rC (.int 1)) rNil))))) (rCons (rKeep (rLst (rCons (rUn gNeg (rC (.int 2))) (rCons (rC (.int 0)) (rCons (rC (.int 1)) rNil))))) (rCons (rKeep (rLst (rCons (rC (.int 1)) (rCons (rC (.int 1)) (rCons (rC (.int 1)) rNil))))) (rCons (rKeep (rLst (rCons (rUn gNeg (rC (.int 2))) (rCons (rC (.int 0)) (rCons (rC (.int 0)) (rCons (rC (.int 1)) rNil)))))) (rCons (rKeep (rLst (rCons (rC (.int 7)) (rCons (rUn gNeg (rC (.int 5))) (rCons (rC (.int 1)) rNil))))) (rCons (rKeep (rLst (rCons (rUn gNeg (rC (.int 1))) (rCons (rUn gNeg (rC (.int 1))) (rCons (rC (.int 1)) rNil))))) (rCons (rKeep (rLst (rCons (rBin gMul (rUn gNeg (rC (.int 3))) (rBin gPow (rC (.int 10)) (rC (.int 40)))) (rCons (rC (.int 0)) (rCons (rC (.int 1)) rNil))))) rNil))))))))) (gName 8))
    (sSeq (sAsg (rCall m__law_next (rCons (rVar 3) (rCons (rC (.int 3)) rNil))) (gName 9))
    (sSeq (sFor (rRange (rCons (rBin gAdd (rVar 9) (rAs gInt (rCons (rAnd (rBin gEq (rVar 4) (rKeep (rLst rNil))) (rBin gEq (rVar 9) (rC (.int 0)))) rNil))) rNil)) (gName 5) (sAsg (rCall m__law_product (rCons (rVar 6) (rCons (rBin gIx (rVar 8) (rCall m__law_next (rCons (rVar 3) (rCons (rC (.int 7)) rNil)))) rNil))) (gName 6)))
    (sSeq (sAsg (rAs gTuple (rCons (rKeep (rLc (rSeq (rKeep (rAs gSortKeysI (rCons (rOwn (rAs gDict (rCons (rKeep (rLc (rSeq (rVar 4)) (gName 7) [7] bYes (rTup (rCons (rVar 7) (rCons (rC (.bl true)) rNil))))) rNil))) rNil)))) (gName 7) [7] bYes (rTup (rCons (rVar 7) (rCons (rMeth "list" (pureM gCountI) (rVar 4) (rCons (rVar 7) rNil)) rNil))))) rNil)) (gName 10))
    (sFor (rRange (rCons (rBin gAdd (rC (.int 1)) (rAs gInt (rCons (rBin gEq (rVar 1) (rC (.int 0))) rNil))) rNil)) (gName 5) (sSeq (sAsg (rCall m_whole_roots (rCons (rAs gTuple (rCons (rVar 6) rNil)) rNil)) (gName 11))
    (sSeq (sIf (bOr (bNot (bTru (rAs gIsi (rCons (rVar 11) (rCons (rC (.ty "tuple")) rNil))))) (bOr (bVal (rBin gNe (rVar 11) (rVar 10))) (bNot (bTru (rAs gAll (rCons (rKeep (rLc (rSeq (rVar 11)) (gName 12) [12] bYes (rAs gIsi (rCons (rVar 12) (rCons (rC (.ty "tuple")) rNil))))) rNil)))))) (sRet (rC (.bl false))) sNext)
    (sIf (bVal (rBin gNe (rKeep (rLc (rSeq (rVar 11)) (gName 12) [12] (bOr (bTru (rAs gIsi (rCons (rBin gIx (rVar 12) (rC (.int 0))) (rCons (rC (.ty "bool")) rNil)))) (bTru (rAs gIsi (rCons (rBin gIx (rVar 12) (rC (.int 1))) (rCons (rC (.ty "bool")) rNil))))) (rVar 12))) (rKeep (rLst rNil)))) (sRet (rC (.bl false))) sNext)))))))))))))))
    (sRet (rC (.bl true))))
def m_law : Mir := mDef 13 b_law
end DL

set_option Elab.async false
set_option linter.all false
set_option maxRecDepth 100000
set_option maxHeartbeats 0
set_option autoImplicit false
namespace DL
open PySem PySem.Spec PyProof.Rows L2
def top (i : Nat) : Stmt := PySem.Challenge.pw_roundless_k30_whole_roots.main.body.getD i (.Pass ⟨0, 0, 0, 0⟩)
abbrev st_poly_at : Stmt := top 1
abbrev st_slope_of : Stmt := top 2
abbrev st_crossed : Stmt := top 3
abbrev st_spots_between : Stmt := top 4
abbrev st_spots_of : Stmt := top 5
abbrev st_divided : Stmt := top 6
abbrev st_whole_roots : Stmt := top 7
abbrev st__law_mixed : Stmt := top 9
abbrev st__law_begun : Stmt := top 10
abbrev st__law_next : Stmt := top 11
abbrev st__law_around : Stmt := top 12
abbrev st__law_root : Stmt := top 13
abbrev st__law_product : Stmt := top 14
abbrev st_law : Stmt := top 15
/-- what the text gives -/
structure Txt (K : Fg) (mg : Str → Option Value) : Prop where
  d_poly_at : Fd K mg "poly_at" st_poly_at ["poly", "number"]
  d_slope_of : Fd K mg "slope_of" st_slope_of ["poly"]
  d_crossed : Fd K mg "crossed" st_crossed ["poly", "low", "high"]
  d_spots_between : Fd K mg "spots_between" st_spots_between ["poly", "spots", "far"]
  d_spots_of : Fd K mg "spots_of" st_spots_of ["poly", "far"]
  d_divided : Fd K mg "divided" st_divided ["poly", "root"]
  d_whole_roots : Fd K mg "whole_roots" st_whole_roots ["poly"]
  d__law_mixed : Fd K mg "_law_mixed" st__law_mixed ["_law_cell", "_law_k"]
  d__law_begun : Fd K mg "_law_begun" st__law_begun ["_law_script", "_law_k", "_law_many"]
  d__law_next : Fd K mg "_law_next" st__law_next ["_law_draw", "_law_below"]
  d__law_around : Fd K mg "_law_around" st__law_around ["_law_draw", "_law_most"]
  d__law_root : Fd K mg "_law_root" st__law_root ["_law_draw", "_law_roots"]
  d__law_product : Fd K mg "_law_product" st__law_product ["_law_one", "_law_other"]
  d_law : Fd K mg "law" st_law ["_law_script"]
  n_abs : mg "abs" = none
  n_all : mg "all" = none
  n_bool : mg "bool" = none
  n_dict : mg "dict" = none
  n_enumerate : mg "enumerate" = none
  n_int : mg "int" = none
  n_isinstance : mg "isinstance" = none
  n_len : mg "len" = none
  n_max : mg "max" = none
  n_range : mg "range" = none
  n_sorted : mg "sorted" = none
  n_sum : mg "sum" = none
  n_tuple : mg "tuple" = none
  n_zip : mg "zip" = none
  dig : NoDig K
section
variable {P : Program} {w : World} {K : Fg} {mg : Str → Option Value} {base : Heap}
theorem sc_poly_at : FnScope ["poly", "number", "found", "one"] ["poly", "number"] (defScope st_poly_at) := ⟨rfl, rfl, rfl, by decide +kernel, rfl, by decide +kernel, by decide +kernel⟩
theorem ok_poly_at (T : Txt K mg) : Fn P w K mg base "poly_at" 2 1 m_poly_at := fn_mk (N := ["poly", "number", "found", "one"]) (ps := ["poly", "number"]) (r := b_poly_at) T.d_poly_at sc_poly_at fun f cdv A outer s H E en tk =>
  have nd := sc_poly_at.nd
  (psds_cons (psd_asg pd_int (pgd_name 2 nd).pg)
    (psds_cons (psd_for en.hp rfl (pid_seq (pd_step (pd_var 0) pod_none pod_none (pod_some (pd_neg pd_int)))) (pgd_name 3 nd).pg (psds_one (psd_asg (pd_bin g_add (pd_bin g_mul (pd_var 2) (pd_var 1)) (pd_var 3)) (pgd_name 2 nd).pg)))
    (psds_one (psd_ret (pd_var 2)))))
theorem sc_slope_of : FnScope ["poly", "place", "number"] ["poly"] (defScope st_slope_of) := ⟨rfl, rfl, rfl, by decide +kernel, rfl, by decide +kernel, by decide +kernel⟩
theorem ok_slope_of (T : Txt K mg) : Fn P w K mg base "slope_of" 1 1 m_slope_of := fn_mk (N := ["poly", "place", "number"]) (ps := ["poly"]) (r := b_slope_of) T.d_slope_of sc_slope_of fun f cdv A outer s H E en tk =>
  have nd := sc_slope_of.nd
  (psds_one (psd_ret (pd_callT (hv := bv_tuple) b_tuple T.n_tuple (pds_cons (pd_cut (pd_keep (pf_lc rfl nd (pid_enumT T.n_enumerate (pds_cons (pd_var 0) pds_nil)) (own := [("place", 1), ("number", 2)]) (blkOk_by (by kernel_rfl)) (plc_noT rfl (fun _ _ _ _ _ => (pgxs_cons (pgx_name 1 nd) (pgxs_cons (pgx_name 2 nd) pgxs_nil))) (fun _ _ _ _ _ => (pd_bin g_mul (pd_var 1) (pd_var 2)))))) (pod_some pd_int) pod_none) pds_nil))))
theorem sc_crossed : FnScope ["poly", "low", "high", "is_below", "middle"] ["poly", "low", "high"] (defScope st_crossed) := ⟨rfl, rfl, rfl, by decide +kernel, rfl, by decide +kernel, by decide +kernel⟩
theorem ok_crossed (T : Txt K mg) : Fn P w K mg base "crossed" 3 2 m_crossed := fn_mk (N := ["poly", "low", "high", "is_below", "middle"]) (ps := ["poly", "low", "high"]) (r := b_crossed) T.d_crossed sc_crossed fun f cdv A outer s H E en tk =>
  have nd := sc_crossed.nd
  (psds_cons (psd_asg (pd_cmp (g_ltU en.u64) (pd_fn (ok_poly_at T) (en.room.mono (by decide)) en.gu tk (pds_cons (pd_var 0) (pds_cons (pd_var 1) pds_nil))) pd_int (by rfl)) (pgd_name 3 nd).pg)
    (psds_cons (psd_while fuel_crossed_0 en.hp (pb_cmp (g_gtU en.u64) (pd_bin g_sub (pd_var 2) (pd_var 1)) pd_int (by rfl)) (psds_cons (psd_asg (pd_bin g_div (pd_bin g_add (pd_var 1) (pd_var 2)) pd_int) (pgd_name 4 nd).pg)
    (psds_one (psd_if (pb_cmp (g_eq en.u64) (pd_cmp (g_ltU en.u64) (pd_fn (ok_poly_at T) (en.room.mono (by decide)) en.gu tk (pds_cons (pd_var 0) (pds_cons (pd_var 4) pds_nil))) pd_int (by rfl)) (pd_var 3) (by rfl)) (psds_one (psd_asg (pd_var 4) (pgd_name 1 nd).pg)) (psds_one (psd_asg (pd_var 4) (pgd_name 2 nd).pg))))))
    (psds_one (psd_ret (pd_var 1)))))
theorem sc_spots_between : FnScope ["poly", "spots", "far", "found", "points", "spot", "every", "low", "high"] ["poly", "spots", "far"] (defScope st_spots_between) := ⟨rfl, rfl, rfl, by decide +kernel, rfl, by decide +kernel, by decide +kernel⟩
theorem ok_spots_between (T : Txt K mg) : Fn P w K mg base "spots_between" 3 3 m_spots_between := fn_mk (N := ["poly", "spots", "far", "found", "points", "spot", "every", "low", "high"]) (ps := ["poly", "spots", "far"]) (r := b_spots_between) T.d_spots_between sc_spots_between fun f cdv A outer s H E en tk =>
  have nd := sc_spots_between.nd
  (psds_cons (psd_asg (pd_own pf_dnew) (pgd_name 3 nd).pg)
    (psds_cons (psd_asg (pd_own (pf_disp (ppd_cons (pd_bin g_sub pd_int (pd_var 2)) pd_bl (ppd_cons (pd_var 2) pd_bl ppd_nil)))) (pgd_name 4 nd).pg)
    (psds_cons (psd_for en.hp rfl (pid_seq (pd_var 1)) (pgd_name 5 nd).pg (psds_cons (psd_putU en.u10 (pd_var 3) (pd_var 5) pd_bl)
    (psds_one (psd_expr (pd_upd (pd_var 4) (pd_own (pf_disp (ppd_cons (pd_var 5) pd_bl (ppd_cons (pd_bin g_add (pd_var 5) pd_int) pd_bl ppd_nil)))))))))
    (psds_cons (psd_asg (pd_keep (pf_sortKeysI rfl T.n_sorted (pds_cons (pd_var 4) pds_nil))) (pgd_name 6 nd).pg)
    (psds_cons (psd_for en.hp rfl (pid_zipA T.n_zip (pds_cons (pd_var 6) (pds_cons (pd_cut (pd_var 6) (pod_some pd_int) pod_none) pds_nil))) (pgn_tup rfl (pgds_cons (pgd_name 7 nd) (pgds_cons (pgd_name 8 nd) pgds_nil))).pg (psds_one (psd_if (pb_w (pw_orD (pb_cmp (g_eq en.u64) (pd_fn (ok_poly_at T) (en.room.mono (by decide)) en.gu tk (pds_cons (pd_var 0) (pds_cons (pd_var 7) pds_nil))) pd_int (by rfl)) (pw_or1D (pb_cmp (g_eq en.u64) (pd_fn (ok_poly_at T) (en.room.mono (by decide)) en.gu tk (pds_cons (pd_var 0) (pds_cons (pd_var 8) pds_nil))) pd_int (by rfl))))) (psds_one (psd_expr (pd_upd (pd_var 3) (pd_own (pf_disp (ppd_cons (pd_var 7) pd_bl (ppd_cons (pd_var 8) pd_bl ppd_nil))))))) (psds_one (psd_if (pb_cmp (g_ne en.u64) (pd_cmp (g_ltU en.u64) (pd_fn (ok_poly_at T) (en.room.mono (by decide)) en.gu tk (pds_cons (pd_var 0) (pds_cons (pd_var 7) pds_nil))) pd_int (by rfl)) (pd_cmp (g_ltU en.u64) (pd_fn (ok_poly_at T) (en.room.mono (by decide)) en.gu tk (pds_cons (pd_var 0) (pds_cons (pd_var 8) pds_nil))) pd_int (by rfl)) (by rfl)) (psds_one (psd_putU en.u10 (pd_var 3) (pd_fn (ok_crossed T) (en.room.mono (by decide)) en.gu tk (pds_cons (pd_var 0) (pds_cons (pd_var 7) (pds_cons (pd_var 8) pds_nil)))) pd_bl)) psds_nil)))))
    (psds_one (psd_ret (pd_keep (pf_sortKeysI rfl T.n_sorted (pds_cons (pd_var 3) pds_nil))))))))))
theorem sc_spots_of : FnScope ["poly", "far", "slopes", "line", "found", "own"] ["poly", "far"] (defScope st_spots_of) := ⟨rfl, rfl, rfl, by decide +kernel, rfl, by decide +kernel, by decide +kernel⟩
theorem ok_spots_of (T : Txt K mg) : Fn P w K mg base "spots_of" 2 4 m_spots_of := fn_mk (N := ["poly", "far", "slopes", "line", "found", "own"]) (ps := ["poly", "far"]) (r := b_spots_of) T.d_spots_of sc_spots_of fun f cdv A outer s H E en tk =>
  have nd := sc_spots_of.nd
  (psds_cons (psd_asg (pd_own (pf_lst (pds_cons (pd_var 0) pds_nil))) (pgd_name 2 nd).pg)
    (psds_cons (psd_while fuel_spots_of_0 en.hp (pb_cmp (g_gtU en.u64) (pd_callB (hv := bv_len) b_len T.n_len (pds_cons (pd_ix (pd_var 2) (pd_neg pd_int)) pds_nil)) pd_int (by rfl)) (psds_one (psd_expr (pd_meth m_append PySem.F.plainAttrs_list PySem.F.slot_list_append PySem.F.type_list_append (pd_var 2) (pds_cons (pd_fn (ok_slope_of T) (en.room.mono (by decide)) en.gu tk (pds_cons (pd_ix (pd_var 2) (pd_neg pd_int)) pds_nil)) pds_nil)))))
    (psds_cons (psd_asg (pd_meth0 m_pop PySem.F.plainAttrs_list PySem.F.slot_list_pop PySem.F.type_list_pop (pd_var 2)) (pgd_name 3 nd).pg)
    (psds_cons (psd_asg (pd_keep (pf_lst (pds_cons (pd_bin g_div (pd_bin g_sub pd_int (pd_ix (pd_var 3) pd_int)) (pd_ix (pd_var 3) pd_int)) pds_nil))) (pgd_name 4 nd).pg)
    (psds_cons (psd_for en.hp rfl (pid_seq (pd_step (pd_var 2) pod_none pod_none (pod_some (pd_neg pd_int)))) (pgd_name 5 nd).pg (psds_one (psd_asg (pd_fn (ok_spots_between T) (en.room.mono (by decide)) en.gu tk (pds_cons (pd_var 5) (pds_cons (pd_var 4) (pds_cons (pd_var 1) pds_nil)))) (pgd_name 4 nd).pg)))
    (psds_one (psd_ret (pd_var 4))))))))
theorem sc_divided : FnScope ["poly", "root", "found", "own", "number"] ["poly", "root"] (defScope st_divided) := ⟨rfl, rfl, rfl, by decide +kernel, rfl, by decide +kernel, by decide +kernel⟩
theorem ok_divided (T : Txt K mg) : Fn P w K mg base "divided" 2 1 m_divided := fn_mk (N := ["poly", "root", "found", "own", "number"]) (ps := ["poly", "root"]) (r := b_divided) T.d_divided sc_divided fun f cdv A outer s H E en tk =>
  have nd := sc_divided.nd
  (psds_cons (psd_asg (pd_own (pf_lst pds_nil)) (pgd_name 2 nd).pg)
    (psds_cons (psd_asg pd_int (pgd_name 3 nd).pg)
    (psds_cons (psd_for en.hp rfl (pid_seq (pd_step0 (pd_var 0) pod_none (pod_some pd_int) (pod_some (pd_neg pd_int)))) (pgd_name 4 nd).pg (psds_cons (psd_asg (pd_bin g_add (pd_bin g_mul (pd_var 3) (pd_var 1)) (pd_var 4)) (pgd_name 3 nd).pg)
    (psds_one (psd_expr (pd_meth m_insert PySem.F.plainAttrs_list PySem.F.slot_list_insert PySem.F.type_list_insert (pd_var 2) (pds_cons pd_int (pds_cons (pd_var 3) pds_nil)))))))
    (psds_one (psd_ret (pd_callT (hv := bv_tuple) b_tuple T.n_tuple (pds_cons (pd_var 2) pds_nil)))))))
theorem sc_whole_roots : FnScope ["poly", "far", "some", "spot", "found", "root", "often", "number"] ["poly"] (defScope st_whole_roots) := ⟨rfl, rfl, rfl, by decide +kernel, rfl, by decide +kernel, by decide +kernel⟩
theorem ok_whole_roots (T : Txt K mg) : Fn P w K mg base "whole_roots" 1 5 m_whole_roots := fn_mk (N := ["poly", "far", "some", "spot", "found", "root", "often", "number"]) (ps := ["poly"]) (r := b_whole_roots) T.d_whole_roots sc_whole_roots fun f cdv A outer s H E en tk =>
  have nd := sc_whole_roots.nd
  (psds_cons (psd_asg (pd_bin g_add pd_int (pd_callB (hv := bv_max) (b_max rfl) T.n_max (pds_cons (pd_keep (pf_lc rfl nd (pid_seq (pd_var 0)) (own := [("number", 7)]) (blkOk_by (by kernel_rfl)) (plc_no (fun _ _ _ _ _ => (pgx_name 7 nd)) (fun _ _ _ _ _ => (pd_callB (hv := bv_abs) b_abs T.n_abs (pds_cons (pd_var 7) pds_nil)))))) pds_nil))) (pgd_name 1 nd).pg)
    (psds_cons (psd_asg (pd_own pf_dnew) (pgd_name 2 nd).pg)
    (psds_cons (psd_for en.hp rfl (pid_seq (pd_fn (ok_spots_of T) (en.room.mono (by decide)) en.gu tk (pds_cons (pd_var 0) (pds_cons (pd_var 1) pds_nil)))) (pgd_name 3 nd).pg (psds_one (psd_expr (pd_upd (pd_var 2) (pd_own (pf_disp (ppd_cons (pd_var 3) pd_bl (ppd_cons (pd_bin g_add (pd_var 3) pd_int) pd_bl ppd_nil))))))))
    (psds_cons (psd_asg (pd_own (pf_lst pds_nil)) (pgd_name 4 nd).pg)
    (psds_cons (psd_for en.hp rfl (pid_seq (pd_keep (pf_sortKeysI rfl T.n_sorted (pds_cons (pd_var 2) pds_nil)))) (pgd_name 5 nd).pg (psds_cons (psd_asg pd_int (pgd_name 6 nd).pg)
    (psds_cons (psd_while fuel_whole_roots_0 en.hp (pb_w (pw_andD (pb_cmp (g_gtU en.u64) (pd_callB (hv := bv_len) b_len T.n_len (pds_cons (pd_var 0) pds_nil)) pd_int (by rfl)) (pw_and1D (pb_cmp (g_eq en.u64) (pd_fn (ok_poly_at T) (en.room.mono (by decide)) en.gu tk (pds_cons (pd_var 0) (pds_cons (pd_var 5) pds_nil))) pd_int (by rfl))))) (psds_cons (psd_asg (pd_fn (ok_divided T) (en.room.mono (by decide)) en.gu tk (pds_cons (pd_var 0) (pds_cons (pd_var 5) pds_nil))) (pgd_name 0 nd).pg)
    (psds_one (psd_asg (pd_bin g_add (pd_var 6) pd_int) (pgd_name 6 nd).pg))))
    (psds_one (psd_if (pb_cmp (g_gtU en.u64) (pd_var 6) pd_int (by rfl)) (psds_one (psd_expr (pd_meth m_append PySem.F.plainAttrs_list PySem.F.slot_list_append PySem.F.type_list_append (pd_var 4) (pds_cons (pd_tup (pds_cons (pd_var 5) (pds_cons (pd_var 6) pds_nil))) pds_nil)))) psds_nil)))))
    (psds_one (psd_ret (pd_callT (hv := bv_tuple) b_tuple T.n_tuple (pds_cons (pd_var 4) pds_nil)))))))))
theorem sc__law_mixed : FnScope ["_law_cell", "_law_k", "_law_number"] ["_law_cell", "_law_k"] (defScope st__law_mixed) := ⟨rfl, rfl, rfl, by decide +kernel, rfl, by decide +kernel, by decide +kernel⟩
theorem ok__law_mixed (T : Txt K mg) : Fn P w K mg base "_law_mixed" 2 1 m__law_mixed := fn_mk (N := ["_law_cell", "_law_k", "_law_number"]) (ps := ["_law_cell", "_law_k"]) (r := b__law_mixed) T.d__law_mixed sc__law_mixed fun f cdv A outer s H E en tk =>
  have nd := sc__law_mixed.nd
  (psds_cons (psd_asg (pd_bin g_mod (pd_bin g_mul (pd_bin g_add (pd_bin g_add (pd_bin g_mod (pd_var 0) pd_int) (pd_bin g_mul pd_int (pd_var 1))) pd_int) pd_int) pd_int) (pgd_name 2 nd).pg)
    (psds_one (psd_ret (pd_bin g_div (pd_bin g_mod (pd_bin g_mul (pd_var 2) (pd_var 2)) pd_int) pd_int))))
theorem sc__law_begun : FnScope ["_law_script", "_law_k", "_law_many", "_law_own", "_law_great"] ["_law_script", "_law_k", "_law_many"] (defScope st__law_begun) := ⟨rfl, rfl, rfl, by decide +kernel, rfl, by decide +kernel, by decide +kernel⟩
theorem ok__law_begun (T : Txt K mg) : Fn P w K mg base "_law_begun" 3 2 m__law_begun := fn_mkK (N := ["_law_script", "_law_k", "_law_many", "_law_own", "_law_great"]) (ps := ["_law_script", "_law_k", "_law_many"]) (r := b__law_begun) T.d__law_begun sc__law_begun fun f cdv A outer s H E en tk =>
  have nd := sc__law_begun.nd
  (psds_cons (psd_asg (pd_or (pd_step (pd_var 0) (pod_some (pd_var 1)) pod_none (pod_some (pd_var 2))) (pd_one (pd_keep (pf_lst (pds_cons (pd_var 1) pds_nil))))) (pgd_name 3 nd).pg)
    (psds_cons (psd_asg (pd_callB (hv := bv_max) (b_max rfl) T.n_max (pds_cons (pd_var 3) pds_nil)) (pgd_name 4 nd).pg)
    (psds_one (psd_ret (pd_own (pf_disp (ppd_cons pd_str (pd_bin g_mul (pd_var 4) (pd_callT (hv := bv_int) b_int T.n_int (pds_cons (pd_cmp (g_geU en.u64) (pd_var 4) (pd_bin g_pow pd_int pd_int) (by rfl)) pds_nil))) (ppd_cons pd_str (pd_fn (ok__law_mixed T) (en.room.mono (by decide)) en.gu tk (pds_cons (pd_fn (ok__law_mixed T) (en.room.mono (by decide)) en.gu tk (pds_cons (pd_callB (hv := bv_sum) (b_sum rfl) T.n_sum (pds_cons (pd_var 3) pds_nil)) (pds_cons (pd_var 1) pds_nil))) (pds_cons (pd_callB (hv := bv_len) b_len T.n_len (pds_cons (pd_var 3) pds_nil)) pds_nil))) ppd_nil))))))))
theorem sc__law_next : FnScope ["_law_draw", "_law_below", "_law_found"] ["_law_draw", "_law_below"] (defScope st__law_next) := ⟨rfl, rfl, rfl, by decide +kernel, rfl, by decide +kernel, by decide +kernel⟩
theorem ok__law_next (T : Txt K mg) : Fn P w K mg base "_law_next" 2 2 m__law_next := fn_mk (N := ["_law_draw", "_law_below", "_law_found"]) (ps := ["_law_draw", "_law_below"]) (r := b__law_next) T.d__law_next sc__law_next fun f cdv A outer s H E en tk =>
  have nd := sc__law_next.nd
  (psds_cons (psd_if (pb_cmp (g_gtU en.u64) (pd_uget en.u10 (pd_var 0) pd_str) pd_int (by rfl)) (psds_cons (psd_asg (pd_bin g_mod (pd_uget en.u10 (pd_var 0) pd_str) (pd_var 1)) (pgd_name 2 nd).pg)
    (psds_cons (psd_putU en.u10 (pd_var 0) pd_str (pd_bin g_div (pd_uget en.u10 (pd_var 0) pd_str) (pd_var 1)))
    (psds_one (psd_ret (pd_var 2))))) psds_nil)
    (psds_cons (psd_putU en.u10 (pd_var 0) pd_str (pd_fn (ok__law_mixed T) (en.room.mono (by decide)) en.gu tk (pds_cons (pd_fn (ok__law_mixed T) (en.room.mono (by decide)) en.gu tk (pds_cons (pd_uget en.u10 (pd_var 0) pd_str) (pds_cons (pd_var 1) pds_nil))) (pds_cons pd_int pds_nil))))
    (psds_one (psd_ret (pd_bin g_mod (pd_uget en.u10 (pd_var 0) pd_str) (pd_var 1))))))
theorem sc__law_around : FnScope ["_law_draw", "_law_most", "_law_found", "_law_size"] ["_law_draw", "_law_most"] (defScope st__law_around) := ⟨rfl, rfl, rfl, by decide +kernel, rfl, by decide +kernel, by decide +kernel⟩
theorem ok__law_around (T : Txt K mg) : Fn P w K mg base "_law_around" 2 3 m__law_around := fn_mk (N := ["_law_draw", "_law_most", "_law_found", "_law_size"]) (ps := ["_law_draw", "_law_most"]) (r := b__law_around) T.d__law_around sc__law_around fun f cdv A outer s H E en tk =>
  have nd := sc__law_around.nd
  (psds_cons (psd_if (pb_cmp (g_ltU en.u64) (pd_var 1) pd_int (by rfl)) (psds_one (psd_ret (pd_bin g_sub (pd_fn (ok__law_next T) (en.room.mono (by decide)) en.gu tk (pds_cons (pd_var 0) (pds_cons (pd_bin g_add (pd_bin g_mul pd_int (pd_var 1)) pd_int) pds_nil))) (pd_var 1)))) psds_nil)
    (psds_cons (psd_asg (pd_tup (pds_cons pd_int (pds_cons pd_int pds_nil))) (pgn_tup rfl (pgds_cons (pgd_name 2 nd) (pgds_cons (pgd_name 3 nd) pgds_nil))).pg)
    (psds_cons (psd_while fuel__law_around_0 en.hp (pb_cmp (g_ltU en.u64) (pd_var 3) (pd_bin g_add (pd_bin g_mul pd_int (pd_var 1)) pd_int) (by rfl)) (psds_one (psd_par rfl nd (pds_cons (pd_bin g_add (pd_bin g_mul (pd_var 2) pd_int) (pd_fn (ok__law_next T) (en.room.mono (by decide)) en.gu tk (pds_cons (pd_var 0) (pds_cons pd_int pds_nil)))) (pds_cons (pd_bin g_mul (pd_var 3) pd_int) pds_nil)))))
    (psds_one (psd_ret (pd_bin g_sub (pd_bin g_mod (pd_var 2) (pd_bin g_add (pd_bin g_mul pd_int (pd_var 1)) pd_int)) (pd_var 1)))))))
theorem sc__law_root : FnScope ["_law_draw", "_law_roots"] ["_law_draw", "_law_roots"] (defScope st__law_root) := ⟨rfl, rfl, rfl, by decide +kernel, rfl, by decide +kernel, by decide +kernel⟩
theorem ok__law_root (T : Txt K mg) : Fn P w K mg base "_law_root" 2 4 m__law_root := fn_mk (N := ["_law_draw", "_law_roots"]) (ps := ["_law_draw", "_law_roots"]) (r := b__law_root) T.d__law_root sc__law_root fun f cdv A outer s H E en tk =>
  have nd := sc__law_root.nd
  (psds_cons (psd_if (pb_w (pw_andD (pb_cmp (g_ne en.u64) (pd_var 1) (pd_keep (pf_lst pds_nil)) (by rfl)) (pw_and1D (pb_cmp (g_eq en.u64) (pd_fn (ok__law_next T) (en.room.mono (by decide)) en.gu tk (pds_cons (pd_var 0) (pds_cons pd_int pds_nil))) pd_int (by rfl))))) (psds_one (psd_ret (pd_bin g_add (pd_bin g_mul (pd_ix (pd_var 1) (pd_fn (ok__law_next T) (en.room.mono (by decide)) en.gu tk (pds_cons (pd_var 0) (pds_cons (pd_callB (hv := bv_len) b_len T.n_len (pds_cons (pd_var 1) pds_nil)) pds_nil)))) (pd_ix (pd_keep (pf_lst (pds_cons pd_int (pds_cons pd_int (pds_cons (pd_neg pd_int) pds_nil))))) (pd_fn (ok__law_next T) (en.room.mono (by decide)) en.gu tk (pds_cons (pd_var 0) (pds_cons pd_int pds_nil))))) (pd_ix (pd_keep (pf_lst (pds_cons pd_int (pds_cons pd_int (pds_cons pd_int pds_nil))))) (pd_fn (ok__law_next T) (en.room.mono (by decide)) en.gu tk (pds_cons (pd_var 0) (pds_cons pd_int pds_nil))))))) psds_nil)
    (psds_one (psd_ret (pd_fn (ok__law_around T) (en.room.mono (by decide)) en.gu tk (pds_cons (pd_var 0) (pds_cons (pd_ix (pd_keep (pf_lst (pds_cons pd_int (pds_cons pd_int (pds_cons pd_int (pds_cons (pd_bin g_pow pd_int pd_int) (pds_cons (pd_bin g_pow pd_int pd_int) pds_nil))))))) (pd_fn (ok__law_next T) (en.room.mono (by decide)) en.gu tk (pds_cons (pd_var 0) (pds_cons pd_int pds_nil)))) pds_nil))))))
theorem sc__law_product : FnScope ["_law_one", "_law_other", "_law_found", "_law_k", "_law_mine", "_law_at", "_law_its"] ["_law_one", "_law_other"] (defScope st__law_product) := ⟨rfl, rfl, rfl, by decide +kernel, rfl, by decide +kernel, by decide +kernel⟩
theorem ok__law_product (T : Txt K mg) : Fn P w K mg base "_law_product" 2 1 m__law_product := fn_mk (N := ["_law_one", "_law_other", "_law_found", "_law_k", "_law_mine", "_law_at", "_law_its"]) (ps := ["_law_one", "_law_other"]) (r := b__law_product) T.d__law_product sc__law_product fun f cdv A outer s H E en tk =>
  have nd := sc__law_product.nd
  (psds_cons (psd_asg (pd_own (pf_rep (pf_lst (pds_cons pd_int pds_nil)) (pd_bin g_sub (pd_bin g_add (pd_callB (hv := bv_len) b_len T.n_len (pds_cons (pd_var 0) pds_nil)) (pd_callB (hv := bv_len) b_len T.n_len (pds_cons (pd_var 1) pds_nil))) pd_int))) (pgd_name 2 nd).pg)
    (psds_cons (psd_for en.hp rfl (pid_enum T.n_enumerate (pds_cons (pd_var 0) pds_nil)) (pgn_tup rfl (pgds_cons (pgd_name 3 nd) (pgds_cons (pgd_name 4 nd) pgds_nil))).pg (psds_one (psd_for en.hp rfl (pid_enum T.n_enumerate (pds_cons (pd_var 1) pds_nil)) (pgn_tup rfl (pgds_cons (pgd_name 5 nd) (pgds_cons (pgd_name 6 nd) pgds_nil))).pg (psds_one (psd_setL (pd_var 2) (pd_bin g_add (pd_var 3) (pd_var 5)) (pd_bin g_add (pd_ix (pd_var 2) (pd_bin g_add (pd_var 3) (pd_var 5))) (pd_bin g_mul (pd_var 4) (pd_var 6))))))))
    (psds_freeze (i := 2) (psds_one (psd_ret (pd_var 2))))))
theorem sc_law : FnScope ["_law_script", "_law_k", "_law_cell", "_law_draw", "_law_roots", "_law_turn", "_law_poly", "_law_root_here", "_law_rests", "_law_many", "_law_due", "_law_found", "_law_one"] ["_law_script"] (defScope st_law) := ⟨rfl, rfl, rfl, by decide +kernel, rfl, by decide +kernel, by decide +kernel⟩
theorem ok_law (T : Txt K mg) : Fn P w K mg base "law" 1 6 m_law := fn_mk (N := ["_law_script", "_law_k", "_law_cell", "_law_draw", "_law_roots", "_law_turn", "_law_poly", "_law_root_here", "_law_rests", "_law_many", "_law_due", "_law_found", "_law_one"]) (ps := ["_law_script"]) (r := b_law) T.d_law sc_law fun f cdv A outer s H E en tk =>
  have nd := sc_law.nd
  (psds_cons (psd_for en.hp rfl (pid_enum T.n_enumerate (pds_cons (pd_cut (pd_or (pd_var 0) (pd_one (pd_keep (pf_lst (pds_cons pd_int pds_nil))))) pod_none (pod_some pd_int)) pds_nil)) (pgn_tup rfl (pgds_cons (pgd_name 1 nd) (pgds_cons (pgd_name 2 nd) pgds_nil))).pg (psds_cons (psd_asg (pd_fn (ok__law_begun T) (en.room.mono (by decide)) en.gu tk (pds_cons (pd_keep (pf_cat (pd_keep (pf_lst (pds_cons (pd_var 2) pds_nil))) (pd_var 0))) (pds_cons pd_int (pds_cons (pd_bin g_add pd_int (pd_var 1)) pds_nil)))) (pgd_name 3 nd).pg)
    (psds_cons (psd_asg (pd_own (pf_lst pds_nil)) (pgd_name 4 nd).pg)
    (psds_cons (psd_for en.hp rfl (pid_range1 T.n_range (pds_cons (pd_fn (ok__law_next T) (en.room.mono (by decide)) en.gu tk (pds_cons (pd_var 3) (pds_cons pd_int pds_nil))) pds_nil)) (pgd_name 5 nd).pg (psds_one (psd_expr (pd_meth m_append PySem.F.plainAttrs_list PySem.F.slot_list_append PySem.F.type_list_append (pd_var 4) (pds_cons (pd_fn (ok__law_root T) (en.room.mono (by decide)) en.gu tk (pds_cons (pd_var 3) (pds_cons (pd_var 4) pds_nil))) pds_nil)))))
    (psds_freeze (i := 4) (psds_cons (psd_asg (pd_keep (pf_lst (pds_cons pd_int pds_nil))) (pgd_name 6 nd).pg)
    (psds_cons (psd_for en.hp rfl (pid_seq (pd_var 4)) (pgd_name 7 nd).pg (psds_one (psd_asg (pd_fn (ok__law_product T) (en.room.mono (by decide)) en.gu tk (pds_cons (pd_var 6) (pds_cons (pd_keep (pf_lst (pds_cons (pd_bin g_sub pd_int (pd_var 7)) (pds_cons pd_int pds_nil)))) pds_nil))) (pgd_name 6 nd).pg)))
    (psds_cons (psd_asg (pd_keep (pf_lst (pds_cons (pd_keep (pf_lst (pds_cons pd_int (pds_cons pd_int (pds_cons pd_int pds_nil))))) (pds_cons (pd_keep (pf_lst (pds_cons (pd_neg pd_int) (pds_cons pd_int (pds_cons pd_int pds_nil))))) (pds_cons (pd_keep (pf_lst (pds_cons pd_int (pds_cons pd_int (pds_cons pd_int pds_nil))))) (pds_cons (pd_keep (pf_lst (pds_cons (pd_neg pd_int) (pds_cons pd_int (pds_cons pd_int (pds_cons pd_int pds_nil)))))) (pds_cons (pd_keep (pf_lst (pds_cons pd_int (pds_cons (pd_neg pd_int) (pds_cons pd_int pds_nil))))) (pds_cons (pd_keep (pf_lst (pds_cons (pd_neg pd_int) (pds_cons (pd_neg pd_int) (pds_cons pd_int pds_nil))))) (pds_cons (pd_keep (pf_lst (pds_cons (pd_bin g_mul (pd_neg pd_int) (pd_bin g_pow pd_int pd_int)) (pds_cons pd_int (pds_cons pd_int pds_nil))))) pds_nil))))))))) (pgd_name 8 nd).pg)
    (psds_cons (psd_asg (pd_fn (ok__law_next T) (en.room.mono (by decide)) en.gu tk (pds_cons (pd_var 3) (pds_cons pd_int pds_nil))) (pgd_name 9 nd).pg)
    (psds_cons (psd_for en.hp rfl (pid_range1 T.n_range (pds_cons (pd_bin g_add (pd_var 9) (pd_callT (hv := bv_int) b_int T.n_int (pds_cons (pd_and (pd_cmp (g_eq en.u64) (pd_var 4) (pd_keep (pf_lst pds_nil)) (by rfl)) (pd_one (pd_cmp (g_eq en.u64) (pd_var 9) pd_int (by rfl)))) pds_nil))) pds_nil)) (pgd_name 5 nd).pg (psds_one (psd_asg (pd_fn (ok__law_product T) (en.room.mono (by decide)) en.gu tk (pds_cons (pd_var 6) (pds_cons (pd_ix (pd_var 8) (pd_fn (ok__law_next T) (en.room.mono (by decide)) en.gu tk (pds_cons (pd_var 3) (pds_cons pd_int pds_nil)))) pds_nil))) (pgd_name 6 nd).pg)))
    (psds_cons (psd_asg (pd_callT (hv := bv_tuple) b_tuple T.n_tuple (pds_cons (pd_keep (pf_lc rfl nd (pid_seq (pd_keep (pf_sortKeysI rfl T.n_sorted (pds_cons (pd_own (pf_dict rfl en.u12 T.n_dict (pds_cons (pd_keep (pf_lc rfl nd (pid_seq (pd_var 4)) (own := [("_law_root_here", 7)]) (blkOk_by (by kernel_rfl)) (plc_no (fun _ _ _ _ _ => (pgx_name 7 nd)) (fun _ _ _ _ _ => (pd_tup (pds_cons (pd_var 7) (pds_cons pd_bl pds_nil))))))) pds_nil))) pds_nil)))) (own := [("_law_root_here", 7)]) (blkOk_by (by kernel_rfl)) (plc_no (fun _ _ _ _ _ => (pgx_name 7 nd)) (fun _ _ _ _ _ => (pd_tup (pds_cons (pd_var 7) (pds_cons (pd_meth m_countI PySem.F.plainAttrs_list PySem.F.slot_list_count PySem.F.type_list_count (pd_var 4) (pds_cons (pd_var 7) pds_nil)) pds_nil))))))) pds_nil)) (pgd_name 10 nd).pg)
    (psds_one (psd_for en.hp rfl (pid_range1 T.n_range (pds_cons (pd_bin g_add pd_int (pd_callT (hv := bv_int) b_int T.n_int (pds_cons (pd_cmp (g_eq en.u64) (pd_var 1) pd_int (by rfl)) pds_nil))) pds_nil)) (pgd_name 5 nd).pg (psds_cons (psd_asg (pd_fn (ok_whole_roots T) (en.room.mono (by decide)) en.gu tk (pds_cons (pd_callT (hv := bv_tuple) b_tuple T.n_tuple (pds_cons (pd_var 6) pds_nil)) pds_nil)) (pgd_name 11 nd).pg)
    (psds_cons (psd_if (pb_w (pw_orD (pb_not (pb_tru (pd_callB (hv := bv_isinstance) b_isi T.n_isinstance (pds_cons (pd_var 11) (pds_cons (pd_ty (hv := bv_tuple) T.n_tuple) pds_nil))))) (pw_orD (pb_cmp (g_ne en.u64) (pd_var 11) (pd_var 10) (by rfl)) (pw_or1D (pb_not (pb_tru (pd_callB (hv := bv_all) (b_all rfl) T.n_all (pds_cons (pd_keep (pf_lc rfl nd (pid_seq (pd_var 11)) (own := [("_law_one", 12)]) (blkOk_by (by kernel_rfl)) (plc_no (fun _ _ _ _ _ => (pgx_name 12 nd)) (fun _ _ _ _ _ => (pd_callB (hv := bv_isinstance) b_isi T.n_isinstance (pds_cons (pd_var 12) (pds_cons (pd_ty (hv := bv_tuple) T.n_tuple) pds_nil))))))) pds_nil)))))))) (psds_one (psd_ret pd_bl)) psds_nil)
    (psds_one (psd_if (pb_cmp (g_ne en.u64) (pd_keep (pf_lc rfl nd (pid_seq (pd_var 11)) (own := [("_law_one", 12)]) (blkOk_by (by kernel_rfl)) (plc_if (fun _ _ _ _ _ => (pgx_name 12 nd)) (fun _ _ _ _ _ => (pb_w (pw_orD (pb_tru (pd_callB (hv := bv_isinstance) b_isi T.n_isinstance (pds_cons (pd_ix (pd_var 12) pd_int) (pds_cons (pd_ty (hv := bv_bool) T.n_bool) pds_nil)))) (pw_or1D (pb_tru (pd_callB (hv := bv_isinstance) b_isi T.n_isinstance (pds_cons (pd_ix (pd_var 12) pd_int) (pds_cons (pd_ty (hv := bv_bool) T.n_bool) pds_nil)))))))) (fun _ _ _ _ _ => (pd_var 12))))) (pd_keep (pf_lst pds_nil)) (by rfl)) (psds_one (psd_ret pd_bl)) psds_nil)))))))))))))))))
    (psds_one (psd_ret pd_bl)))
end
/-! the head -/
def dd_poly_at : He.DefD := ⟨("poly_at", none), "poly_at", "poly_at", defArgs st_poly_at, defBody st_poly_at, defScope st_poly_at, [], []⟩
def dd_slope_of : He.DefD := ⟨("slope_of", none), "slope_of", "slope_of", defArgs st_slope_of, defBody st_slope_of, defScope st_slope_of, [], []⟩
def dd_crossed : He.DefD := ⟨("crossed", none), "crossed", "crossed", defArgs st_crossed, defBody st_crossed, defScope st_crossed, [], []⟩
def dd_spots_between : He.DefD := ⟨("spots_between", none), "spots_between", "spots_between", defArgs st_spots_between, defBody st_spots_between, defScope st_spots_between, [], []⟩
def dd_spots_of : He.DefD := ⟨("spots_of", none), "spots_of", "spots_of", defArgs st_spots_of, defBody st_spots_of, defScope st_spots_of, [], []⟩
def dd_divided : He.DefD := ⟨("divided", none), "divided", "divided", defArgs st_divided, defBody st_divided, defScope st_divided, [], []⟩
def dd_whole_roots : He.DefD := ⟨("whole_roots", none), "whole_roots", "whole_roots", defArgs st_whole_roots, defBody st_whole_roots, defScope st_whole_roots, [], []⟩
def dd__law_mixed : He.DefD := ⟨("_law_mixed", none), "_law_mixed", "_law_mixed", defArgs st__law_mixed, defBody st__law_mixed, defScope st__law_mixed, [], []⟩
def dd__law_begun : He.DefD := ⟨("_law_begun", none), "_law_begun", "_law_begun", defArgs st__law_begun, defBody st__law_begun, defScope st__law_begun, [], []⟩
def dd__law_next : He.DefD := ⟨("_law_next", none), "_law_next", "_law_next", defArgs st__law_next, defBody st__law_next, defScope st__law_next, [], []⟩
def dd__law_around : He.DefD := ⟨("_law_around", none), "_law_around", "_law_around", defArgs st__law_around, defBody st__law_around, defScope st__law_around, [], []⟩
def dd__law_root : He.DefD := ⟨("_law_root", none), "_law_root", "_law_root", defArgs st__law_root, defBody st__law_root, defScope st__law_root, [], []⟩
def dd__law_product : He.DefD := ⟨("_law_product", none), "_law_product", "_law_product", defArgs st__law_product, defBody st__law_product, defScope st__law_product, [], []⟩
def dd_law : He.DefD := ⟨("law", none), "law", "law", defArgs st_law, defBody st_law, defScope st_law, [], []⟩
def fn : List He.DefD := [dd_poly_at, dd_slope_of, dd_crossed, dd_spots_between, dd_spots_of, dd_divided, dd_whole_roots, dd__law_mixed, dd__law_begun, dd__law_next, dd__law_around, dd__law_root, dd__law_product, dd_law]
def li : List (Str × D) := []
def fa : List He.Fa := [.glo "poly_at", .glo "slope_of", .glo "crossed", .glo "spots_between", .glo "spots_of", .glo "divided", .glo "whole_roots", .glo "_law_mixed", .glo "_law_begun", .glo "_law_next", .glo "_law_around", .glo "_law_root", .glo "_law_product", .glo "law", .free "abs", .free "all", .free "bool", .free "dict", .free "enumerate", .free "int", .free "isinstance", .free "len", .free "max", .free "range", .free "sorted", .free "sum", .free "tuple", .free "zip"]
theorem txt {K : Fg} {h : Heap} {mg : Str → Option Value} (X : K.In h) (G : h.Ns mainGlobals mg) (c : He.SaysD fa fn K) (hd : NoDig K) (hl : ∀ (i : Nat) (p : Str × D), li[i]? = some p → litF K p = true) : Txt K mg where
  d_poly_at := (c.def_ 0 (d := dd_poly_at) rfl).elim fun fd F => ⟨_, fd, fun_of F, He.glo_ok X G (c.fact 0 (f := .glo "poly_at") rfl), F.bindsN fun _ _ _ _ _ _ us hl => match us, hl with | [_, _], _ => rfl⟩
  d_slope_of := (c.def_ 1 (d := dd_slope_of) rfl).elim fun fd F => ⟨_, fd, fun_of F, He.glo_ok X G (c.fact 1 (f := .glo "slope_of") rfl), F.bindsN fun _ _ _ _ _ _ us hl => match us, hl with | [_], _ => rfl⟩
  d_crossed := (c.def_ 2 (d := dd_crossed) rfl).elim fun fd F => ⟨_, fd, fun_of F, He.glo_ok X G (c.fact 2 (f := .glo "crossed") rfl), F.bindsN fun _ _ _ _ _ _ us hl => match us, hl with | [_, _, _], _ => rfl⟩
  d_spots_between := (c.def_ 3 (d := dd_spots_between) rfl).elim fun fd F => ⟨_, fd, fun_of F, He.glo_ok X G (c.fact 3 (f := .glo "spots_between") rfl), F.bindsN fun _ _ _ _ _ _ us hl => match us, hl with | [_, _, _], _ => rfl⟩
  d_spots_of := (c.def_ 4 (d := dd_spots_of) rfl).elim fun fd F => ⟨_, fd, fun_of F, He.glo_ok X G (c.fact 4 (f := .glo "spots_of") rfl), F.bindsN fun _ _ _ _ _ _ us hl => match us, hl with | [_, _], _ => rfl⟩
  d_divided := (c.def_ 5 (d := dd_divided) rfl).elim fun fd F => ⟨_, fd, fun_of F, He.glo_ok X G (c.fact 5 (f := .glo "divided") rfl), F.bindsN fun _ _ _ _ _ _ us hl => match us, hl with | [_, _], _ => rfl⟩
  d_whole_roots := (c.def_ 6 (d := dd_whole_roots) rfl).elim fun fd F => ⟨_, fd, fun_of F, He.glo_ok X G (c.fact 6 (f := .glo "whole_roots") rfl), F.bindsN fun _ _ _ _ _ _ us hl => match us, hl with | [_], _ => rfl⟩
  d__law_mixed := (c.def_ 7 (d := dd__law_mixed) rfl).elim fun fd F => ⟨_, fd, fun_of F, He.glo_ok X G (c.fact 7 (f := .glo "_law_mixed") rfl), F.bindsN fun _ _ _ _ _ _ us hl => match us, hl with | [_, _], _ => rfl⟩
  d__law_begun := (c.def_ 8 (d := dd__law_begun) rfl).elim fun fd F => ⟨_, fd, fun_of F, He.glo_ok X G (c.fact 8 (f := .glo "_law_begun") rfl), F.bindsN fun _ _ _ _ _ _ us hl => match us, hl with | [_, _, _], _ => rfl⟩
  d__law_next := (c.def_ 9 (d := dd__law_next) rfl).elim fun fd F => ⟨_, fd, fun_of F, He.glo_ok X G (c.fact 9 (f := .glo "_law_next") rfl), F.bindsN fun _ _ _ _ _ _ us hl => match us, hl with | [_, _], _ => rfl⟩
  d__law_around := (c.def_ 10 (d := dd__law_around) rfl).elim fun fd F => ⟨_, fd, fun_of F, He.glo_ok X G (c.fact 10 (f := .glo "_law_around") rfl), F.bindsN fun _ _ _ _ _ _ us hl => match us, hl with | [_, _], _ => rfl⟩
  d__law_root := (c.def_ 11 (d := dd__law_root) rfl).elim fun fd F => ⟨_, fd, fun_of F, He.glo_ok X G (c.fact 11 (f := .glo "_law_root") rfl), F.bindsN fun _ _ _ _ _ _ us hl => match us, hl with | [_, _], _ => rfl⟩
  d__law_product := (c.def_ 12 (d := dd__law_product) rfl).elim fun fd F => ⟨_, fd, fun_of F, He.glo_ok X G (c.fact 12 (f := .glo "_law_product") rfl), F.bindsN fun _ _ _ _ _ _ us hl => match us, hl with | [_, _], _ => rfl⟩
  d_law := (c.def_ 13 (d := dd_law) rfl).elim fun fd F => ⟨_, fd, fun_of F, He.glo_ok X G (c.fact 13 (f := .glo "law") rfl), F.bindsN fun _ _ _ _ _ _ us hl => match us, hl with | [_], _ => rfl⟩
  n_abs := He.free_ok X G (c.fact 14 (f := .free "abs") rfl)
  n_all := He.free_ok X G (c.fact 15 (f := .free "all") rfl)
  n_bool := He.free_ok X G (c.fact 16 (f := .free "bool") rfl)
  n_dict := He.free_ok X G (c.fact 17 (f := .free "dict") rfl)
  n_enumerate := He.free_ok X G (c.fact 18 (f := .free "enumerate") rfl)
  n_int := He.free_ok X G (c.fact 19 (f := .free "int") rfl)
  n_isinstance := He.free_ok X G (c.fact 20 (f := .free "isinstance") rfl)
  n_len := He.free_ok X G (c.fact 21 (f := .free "len") rfl)
  n_max := He.free_ok X G (c.fact 22 (f := .free "max") rfl)
  n_range := He.free_ok X G (c.fact 23 (f := .free "range") rfl)
  n_sorted := He.free_ok X G (c.fact 24 (f := .free "sorted") rfl)
  n_sum := He.free_ok X G (c.fact 25 (f := .free "sum") rfl)
  n_tuple := He.free_ok X G (c.fact 26 (f := .free "tuple") rfl)
  n_zip := He.free_ok X G (c.fact 27 (f := .free "zip") rfl)
  dig := hd
end DL

set_option Elab.async false
set_option linter.all false
set_option maxRecDepth 100000
set_option maxHeartbeats 4000000
set_option autoImplicit false
/-! Typed things as data: their order, sorting. -/
namespace DL
open PySem L2
class Emb (κ : Type) where
  toD : κ → D
  py : κ → PyData
  deg : Nat
  pyOk : ∀ (S : Sto) (a : κ), toPy S (toD a) = some (py a)
  np : ∀ (a : κ) (k : Nat), toD a ≠ .ptr k
  al : ∀ a b : κ, PySem.W.alike (py a) (py b) = true
  dep : ∀ a : κ, (py a).depth ≤ deg
  inj : ∀ a b : κ, PyData.eqv (py a) (py b) = true → a = b
  cl : ∀ (n : Nat) (a : κ), D.closed n (toD a) = true
open Emb
section
variable {κ ν : Type} [Emb κ] [Emb ν]
theorem emb_pys (S : Sto) : ∀ xs : List κ, toPys S (xs.map toD) = some (xs.map py)
  | [] => rfl
  | x :: r => by unfold List.map toPys; rw [pyOk S x, emb_pys S r]
theorem emb_closed (n : Nat) : ∀ xs : List κ, closedL n (xs.map toD) = true
  | [] => rfl
  | x :: r => by unfold List.map closedL; rw [cl n x, emb_closed n r]; rfl
theorem emb_al : ∀ xs ys : List κ, PySem.W.alikeAll (xs.map py) (ys.map py) = true
  | [], _ => by unfold List.map PySem.W.alikeAll; rfl
  | _ :: _, [] => by unfold List.map PySem.W.alikeAll; rfl
  | x :: r, y :: q => by unfold List.map PySem.W.alikeAll; rw [al x y, emb_al r q]; rfl
theorem emb_dep : ∀ xs : List κ, PyData.depthAll (xs.map py) ≤ deg κ
  | [] => by simp [PyData.depthAll]
  | x :: r => by
    have h1 := dep x
    have h2 := emb_dep r
    simp only [List.map_cons, PyData.depthAll]
    omega
theorem emb_injs : ∀ xs ys : List κ, PyData.eqvAll (xs.map py) (ys.map py) = true → xs = ys
  | [], [], _ => rfl
  | [], _ :: _, h => by simp [PyData.eqvAll] at h
  | _ :: _, [], h => by simp [PyData.eqvAll] at h
  | x :: r, y :: q, h => by
    simp only [List.map_cons, PyData.eqvAll, Bool.and_eq_true] at h
    rw [inj x y h.1, emb_injs r q h.2]
theorem deref_emb (S : Sto) (a : κ) : deref S (toD a) = toD a := by
  have h := np a
  cases q : (toD a : D) with
  | ptr k => exact absurd q (h k)
  | _ => rfl
end
instance : Emb Int where
  toD := .int
  py := .int
  deg := 0
  pyOk := fun _ _ => rfl
  np := fun _ _ h => nomatch h
  al := fun a b => by simp [PySem.W.alike]
  dep := fun a => by simp [PyData.depth]
  inj := fun a b h => by simpa [PyData.eqv] using h
  cl := fun _ _ => rfl
instance : Emb Str where
  toD := .str
  py := .str
  deg := 0
  pyOk := fun _ _ => rfl
  np := fun _ _ h => nomatch h
  al := fun a b => by simp [PySem.W.alike]
  dep := fun a => by simp [PyData.depth]
  inj := fun a b h => by simpa [PyData.eqv] using h
  cl := fun _ _ => rfl
instance {α β : Type} [Emb α] [Emb β] : Emb (α × β) where
  toD := fun p => .tup [toD p.1, toD p.2]
  py := fun p => .tuple [py p.1, py p.2]
  deg := max (deg α) (deg β) + 1
  pyOk := fun S p => by unfold toPy toPys toPys toPys; rw [pyOk, pyOk]; rfl
  np := fun _ _ h => nomatch h
  al := fun a b => by simp [PySem.W.alike, PySem.W.alikeAll, al]
  dep := fun a => by
    have h1 := dep a.1
    have h2 := dep a.2
    simp only [PyData.depth, PyData.depthAll]
    omega
  inj := fun a b h => by
    simp only [PyData.eqv, PyData.eqvAll, Bool.and_eq_true] at h
    exact Prod.ext (inj _ _ h.1) (inj _ _ h.2.1)
  cl := fun n p => by unfold D.closed closedL closedL closedL; rw [cl, cl]; rfl
instance {α : Type} [Emb α] : Emb (List α) where
  toD := fun xs => .tup (xs.map toD)
  py := fun xs => .tuple (xs.map py)
  deg := deg α + 1
  pyOk := fun S xs => by unfold toPy; rw [emb_pys]; rfl
  np := fun _ _ h => nomatch h
  al := fun a b => by unfold PySem.W.alike; exact emb_al a b
  dep := fun a => by
    have := emb_dep a
    simp only [PyData.depth]
    omega
  inj := fun a b h => by
    simp only [PyData.eqv] at h
    exact emb_injs a b h
  cl := fun n xs => by unfold D.closed; exact emb_closed n xs
theorem toD_int (i : Int) : (toD i : D) = .int i := rfl
theorem toD_str (i : Str) : (toD i : D) = .str i := rfl
theorem toD_pair {α β : Type} [Emb α] [Emb β] (p : α × β) : (toD p : D) = .tup [toD p.1, toD p.2] := rfl
theorem toD_list {α : Type} [Emb α] (p : List α) : (toD p : D) = .tup (p.map toD) := rfl
/-! ### order -/
section
variable {κ ν : Type} [Emb κ] [Emb ν]
def ltE (a b : κ) : Bool := PySem.W.dataLt (py a) (py b)
def leE (a b : κ) : Bool := !ltE b a
theorem leE_sort : (leE : κ → κ → Bool) = PySem.W.sortLe (PyProof.Rows.listOrd PyProof.Rows.itemOrd) false (fun a : κ => PySem.W.keyToks (py a)) := rfl
theorem leE_total : PySem.W.TotalLe (leE : κ → κ → Bool) := by rw [leE_sort]; exact PySem.W.sortLe_total _ _ _
theorem toks_inj {a b : κ} (h : PySem.W.keyToks (py a) = PySem.W.keyToks (py b)) : a = b := by
  obtain ⟨_, h2⟩ := PySem.W.toks_eqv (py a) (py b) (al a b)
  cases q : PyData.eqv (py a) (py b) with
  | true => exact inj a b q
  | false =>
    have e1 := h2 q [] [.inl 0]
    have e2 := h2 q [] []
    rw [h] at e1 e2
    rw [PySem.W.lex_pre] at e1 e2
    rw [← e2] at e1
    cases e1
theorem leE_anti {a b : κ} (h1 : leE a b = true) (h2 : leE b a = true) : a = b := by
  unfold leE ltE at h1 h2
  rw [Bool.not_eq_true'] at h1 h2
  exact toks_inj ((PyProof.Rows.listOrd PyProof.Rows.itemOrd).total _ _ h2 h1)
theorem ltE_irr (a : κ) : ltE a a = false := (PyProof.Rows.listOrd PyProof.Rows.itemOrd).irrefl _
theorem ltE_ne {a b : κ} (h : ltE a b = true) : a ≠ b := fun e => by subst e; rw [ltE_irr] at h; cases h
theorem ltE_trans {a b c : κ} (h : ltE a b = true) (g : ltE b c = true) : ltE a c = true := (PyProof.Rows.listOrd PyProof.Rows.itemOrd).trans _ _ _ h g
theorem leE_of_lt {a b : κ} (h : ltE a b = true) : leE a b = true := by
  unfold leE
  cases q : ltE b a with
  | false => rfl
  | true => exact absurd (ltE_trans h q) (by rw [ltE_irr]; decide)
theorem ltE_of_le {a b : κ} (h : leE a b = true) (hn : a ≠ b) : ltE a b = true := by
  cases q : ltE a b with
  | true => rfl
  | false => exact absurd (leE_anti h (by unfold leE; rw [q]; rfl)) hn
/-- pairs of unlike firsts -/
theorem ltE_fst {p q : κ × ν} (h : p.1 ≠ q.1) : ltE p q = ltE p.1 q.1 := by
  unfold ltE
  show PySem.W.dataLt (.tuple [py p.1, py p.2]) (.tuple [py q.1, py q.2]) = _
  rw [PySem.W.dataLt_pair (al _ _) (al _ _)]
  have : PyData.eqv (py p.1) (py q.1) = false := by
    cases e : PyData.eqv (py p.1) (py q.1) with
    | false => rfl
    | true => exact absurd (inj _ _ e) h
  rw [this]
  rfl
def srt (xs : List κ) : List κ := xs.mergeSort leE
theorem srt_perm (xs : List κ) : (srt xs).Perm xs := List.mergeSort_perm _ _
theorem srt_pair (xs : List κ) : (srt xs).Pairwise fun a b => leE a b = true := PySem.W.sort_pairwise leE_total xs
theorem srt_id {xs : List κ} (h : xs.Pairwise fun a b => leE a b = true) : srt xs = xs := List.mergeSort_of_pairwise h
theorem sorted_one {xs ys : List κ} (h1 : xs.Pairwise fun a b => leE a b = true) (h2 : ys.Pairwise fun a b => leE a b = true) (p : xs.Perm ys) : xs = ys := p.eq_of_pairwise (fun _ _ _ _ a b => leE_anti a b) h1 h2
theorem srt_eq {xs ys : List κ} (p : xs.Perm ys) : srt xs = srt ys := sorted_one (srt_pair _) (srt_pair _) ((srt_perm xs).trans (p.trans (srt_perm ys).symm))
theorem srt_len (xs : List κ) : (srt xs).length = xs.length := (srt_perm xs).length_eq
theorem srt_mem {xs : List κ} {a : κ} : a ∈ srt xs ↔ a ∈ xs := (srt_perm xs).mem_iff
class Sok (κ : Type) [Emb κ] : Prop where
  sok : (∀ a : κ, tupFull (py a) = true) ∨ ∀ a : κ, noTup (py a) = true
  low : deg κ ≤ 40
theorem sortD_emb [Sok κ] (S : Sto) (xs : List κ) (hl : xs.length ≤ sizeLine) : sortD S (xs.map toD) = some ((srt xs).map toD) := by
  unfold sortD
  rw [emb_pys]
  dsimp only
  have so : sortable (xs.map py) = true := by
    unfold sortable
    rw [Bool.and_eq_true, Bool.and_eq_true, Bool.or_eq_true]
    refine ⟨(Sok.sok (κ := κ)).imp (fun h => List.all_eq_true.mpr fun x hx => ?_) (fun h => List.all_eq_true.mpr fun x hx => ?_), List.all_eq_true.mpr fun x hx => List.all_eq_true.mpr fun y hy => ?_, List.all_eq_true.mpr fun x hx => decide_eq_true ?_⟩
    · obtain ⟨a, _, rfl⟩ := List.mem_map.mp hx; exact h a
    · obtain ⟨a, _, rfl⟩ := List.mem_map.mp hx; exact h a
    · obtain ⟨a, _, rfl⟩ := List.mem_map.mp hx
      obtain ⟨b, _, rfl⟩ := List.mem_map.mp hy
      exact al a b
    · obtain ⟨a, _, rfl⟩ := List.mem_map.mp hx
      exact Nat.le_trans (dep a) (Sok.low (κ := κ))
  rw [so, List.length_map, decide_eq_true hl]
  show some _ = some _
  congr 1
  unfold sortBy srt
  rw [show (xs.map toD).zip (xs.map py) = xs.map fun a : κ => ((toD a : D), py a) from by rw [List.zip_map']]
  rw [← PySem.W.sort_maps (r := leE) (s := PySem.W.dataLe false fun p : D × PyData => p.2) (fun a : κ => ((toD a : D), py a)) (fun a _ b _ => rfl), List.map_map]
  rfl
instance : Sok Int := ⟨.inr fun _ => rfl, by decide⟩
instance : Sok Str := ⟨.inr fun _ => rfl, by decide⟩
end
/-! ### rows of pairs: dicts -/
section
variable {κ ν : Type} [DecidableEq κ]
def getT : List (κ × ν) → κ → Option ν
  | [], _ => none
  | (k, v) :: r, q => if k = q then some v else getT r q
def replT : List (κ × ν) → κ → ν → List (κ × ν)
  | [], _, _ => []
  | (k, v) :: r, q, y => if k = q then (k, y) :: replT r q y else (k, v) :: replT r q y
def putT (kvs : List (κ × ν)) (q : κ) (y : ν) : List (κ × ν) := if (getT kvs q).isSome then replT kvs q y else kvs ++ [(q, y)]
def mergeT (kvs more : List (κ × ν)) : List (κ × ν) := more.foldl (fun acc p => putT acc p.1 p.2) kvs
def ND (kvs : List (κ × ν)) : Prop := (kvs.map (·.1)).Nodup
theorem getT_nil (q : κ) : getT ([] : List (κ × ν)) q = none := rfl
theorem getT_cons (k : κ) (v : ν) (r : List (κ × ν)) (q : κ) : getT ((k, v) :: r) q = if k = q then some v else getT r q := rfl
theorem getT_app (a b : List (κ × ν)) (q : κ) : getT (a ++ b) q = (getT a q).or (getT b q) := by
  induction a with
  | nil => rfl
  | cons p r ih =>
    show getT ((p.1, p.2) :: (r ++ b)) q = (getT ((p.1, p.2) :: r) q).or _
    rw [getT_cons, getT_cons]
    split
    · rfl
    · exact ih
theorem getT_repl (kvs : List (κ × ν)) (k q : κ) (v : ν) : getT (replT kvs k v) q = if q = k then (getT kvs k).map (fun _ => v) else getT kvs q := by
  induction kvs with
  | nil => show none = _; rw [getT_nil, getT_nil]; split <;> rfl
  | cons p r ih =>
    obtain ⟨k', v'⟩ := p
    show getT (if k' = k then (k', v) :: replT r k v else (k', v') :: replT r k v) q = _
    rw [getT_cons, getT_cons]
    by_cases h : k' = k
    · subst h
      rw [if_pos rfl, if_pos rfl, getT_cons]
      by_cases z : k' = q
      · subst z; rw [if_pos rfl, if_pos rfl]; rfl
      · rw [if_neg z, ih, if_neg (Ne.symm z), if_neg (Ne.symm z), if_neg z]
    · rw [if_neg h, if_neg h, getT_cons]
      by_cases z : k' = q
      · subst z; rw [if_pos rfl, if_neg h, if_pos rfl]
      · rw [if_neg z, ih]
        by_cases y : q = k
        · rw [if_pos y, if_pos y]
        · rw [if_neg y, if_neg y, if_neg z]
theorem getT_put (kvs : List (κ × ν)) (k q : κ) (v : ν) : getT (putT kvs k v) q = if q = k then some v else getT kvs q := by
  unfold putT
  split
  · rename_i h
    rw [getT_repl]
    split
    · cases e : getT kvs k with
      | none => rw [e] at h; cases h
      | some _ => rfl
    · rfl
  · rename_i h
    have h : getT kvs k = none := by simpa using h
    rw [getT_app, getT_cons, getT_nil]
    by_cases z : q = k
    · subst z
      rw [h]
      simp
    · rw [if_neg z, if_neg (Ne.symm z)]
      cases getT kvs q <;> rfl
theorem repl_keys (kvs : List (κ × ν)) (k : κ) (v : ν) : (replT kvs k v).map (·.1) = kvs.map (·.1) := by
  induction kvs with
  | nil => rfl
  | cons p r ih =>
    unfold replT
    split <;> rw [List.map_cons, ih] <;> rfl
theorem getT_none {kvs : List (κ × ν)} {q : κ} : getT kvs q = none ↔ q ∉ kvs.map (·.1) := by
  induction kvs with
  | nil => exact ⟨fun _ h => (nomatch h), fun _ => rfl⟩
  | cons p r ih =>
    obtain ⟨k', v'⟩ := p
    rw [getT_cons]
    by_cases h : k' = q
    · subst h; rw [if_pos rfl]; exact ⟨fun z => (nomatch z), fun z => absurd (List.mem_cons_self ..) z⟩
    · rw [if_neg h, ih]
      exact ⟨fun z y => by
        rcases List.mem_cons.mp y with y | y
        · exact h y.symm
        · exact z y, fun z y => z (List.mem_cons_of_mem _ y)⟩
theorem nd_put {kvs : List (κ × ν)} (h : ND kvs) (k : κ) (v : ν) : ND (putT kvs k v) := by
  unfold putT
  split
  · unfold ND; rw [repl_keys]; exact h
  · rename_i z
    have z : getT kvs k = none := by simpa using z
    unfold ND
    rw [List.map_append]
    refine List.nodup_append.mpr ⟨h, by simp, fun a ha b hb e => ?_⟩
    have : b = k := by simpa using hb
    subst this; subst e
    exact getT_none.mp z ha
theorem getT_mem {kvs : List (κ × ν)} {k : κ} {v : ν} (h : getT kvs k = some v) : (k, v) ∈ kvs := by
  induction kvs with
  | nil => cases h
  | cons p r ih =>
    obtain ⟨k', v'⟩ := p
    rw [getT_cons] at h
    split at h
    · rename_i e; subst e; cases h; exact List.mem_cons_self
    · exact List.mem_cons_of_mem _ (ih h)
theorem mem_getT {kvs : List (κ × ν)} (hn : ND kvs) {k : κ} {v : ν} (h : (k, v) ∈ kvs) : getT kvs k = some v := by
  induction kvs with
  | nil => cases h
  | cons p r ih =>
    obtain ⟨k', v'⟩ := p
    unfold ND at hn
    rw [List.map_cons, List.nodup_cons] at hn
    rw [getT_cons]
    rcases List.mem_cons.mp h with e | h
    · cases e; rw [if_pos rfl]
    · have : k' ≠ k := fun z => by subst z; exact hn.1 (List.mem_map.mpr ⟨_, h, rfl⟩)
      rw [if_neg this]
      exact ih hn.2 h
theorem nd_pairs {kvs : List (κ × ν)} (h : ND kvs) : kvs.Nodup := by
  unfold ND at h
  exact (List.pairwise_map.mp h).imp fun a b => a (congrArg (·.1) b)
theorem perm_of_get {a b : List (κ × ν)} (ha : ND a) (hb : ND b) (h : ∀ q, getT a q = getT b q) : a.Perm b :=
  (List.perm_ext_iff_of_nodup (nd_pairs ha) (nd_pairs hb)).mpr fun p => ⟨fun hp => getT_mem (by rw [← h]; exact mem_getT ha hp), fun hp => getT_mem (by rw [h]; exact mem_getT hb hp)⟩
theorem nd_perm {a b : List (κ × ν)} (h : a.Perm b) (ha : ND a) : ND b := (h.map _).nodup_iff.mp ha
theorem get_perm {a b : List (κ × ν)} (h : a.Perm b) (ha : ND a) (q : κ) : getT a q = getT b q := by
  have hb := nd_perm h ha
  cases e : getT a q with
  | some v => exact (mem_getT hb (h.mem_iff.mp (getT_mem e))).symm
  | none =>
    rw [getT_none] at e
    exact (getT_none.mpr fun z => e ((h.map _).mem_iff.mpr z)).symm
theorem nd_filter {a : List (κ × ν)} (f : κ × ν → Bool) (ha : ND a) : ND (a.filter f) := by
  unfold ND at *
  exact (List.filter_sublist.map _).nodup ha
theorem get_filter {a : List (κ × ν)} (f : κ × ν → Bool) (ha : ND a) (q : κ) : getT (a.filter f) q = (getT a q).filter fun v => f (q, v) := by
  cases e : getT a q with
  | none =>
    rw [getT_none] at e
    exact getT_none.mpr fun z => e ((List.filter_sublist.map _).subset z)
  | some v =>
    have hm := getT_mem e
    cases hf : f (q, v) with
    | true =>
      rw [mem_getT (nd_filter f ha) (List.mem_filter.mpr ⟨hm, hf⟩)]
      simp [Option.filter, hf]
    | false =>
      rw [show (some v).filter (fun v => f (q, v)) = none by simp [Option.filter, hf]]
      refine getT_none.mpr fun z => ?_
      obtain ⟨p, hp, e2⟩ := List.mem_map.mp z
      obtain ⟨hp1, hp2⟩ := List.mem_filter.mp hp
      have : p.2 = v := by
        have := mem_getT ha (show (q, p.2) ∈ a by rw [← e2]; exact hp1)
        rw [e] at this; cases this; rfl
      rw [show p = (q, v) from Prod.ext e2 this, hf] at hp2
      cases hp2
theorem nd_merge {b : List (κ × ν)} : ∀ {a : List (κ × ν)}, ND a → ND (mergeT a b) := by
  induction b with
  | nil => exact fun h => h
  | cons p r ih => exact fun h => ih (nd_put h _ _)
theorem merge_new : ∀ {b a : List (κ × ν)}, ND (a ++ b) → mergeT a b = a ++ b
  | [], a, _ => by rw [List.append_nil]; rfl
  | p :: r, a, h => by
    have e : putT a p.1 p.2 = a ++ [p] := by
      unfold putT
      have : getT a p.1 = none := getT_none.mpr fun z => by
        unfold ND at h
        rw [List.map_append] at h
        exact (List.nodup_append.mp h).2.2 p.1 z p.1 (by simp) rfl
      rw [this]
      rfl
    show mergeT (putT a p.1 p.2) r = _
    rw [e, merge_new (by rw [List.append_assoc]; exact h), List.append_assoc]
    rfl
theorem merge_id {b : List (κ × ν)} (h : ND b) : mergeT [] b = b := merge_new h
theorem put_len (kvs : List (κ × ν)) (k : κ) (v : ν) : (putT kvs k v).length ≤ kvs.length + 1 := by
  unfold putT
  split
  · have := congrArg List.length (repl_keys kvs k v)
    rw [List.length_map, List.length_map] at this
    omega
  · rw [List.length_append]; exact Nat.le_refl _
theorem put_all {P : κ × ν → Prop} {kvs : List (κ × ν)} (h : ∀ p ∈ kvs, P p) {k : κ} {v : ν} (hv : P (k, v)) : ∀ p ∈ putT kvs k v, P p := by
  have rp : ∀ {kvs : List (κ × ν)}, (∀ p ∈ kvs, P p) → ∀ p ∈ replT kvs k v, P p := by
    intro kvs
    induction kvs with
    | nil => exact fun _ _ z => nomatch z
    | cons p r ih =>
      obtain ⟨k', v'⟩ := p
      intro h p hp
      unfold replT at hp
      split at hp
      · rename_i e
        subst e
        rcases List.mem_cons.mp hp with rfl | hp
        · exact hv
        · exact ih (fun q hq => h q (List.mem_cons_of_mem _ hq)) p hp
      · rcases List.mem_cons.mp hp with rfl | hp
        · exact h _ List.mem_cons_self
        · exact ih (fun q hq => h q (List.mem_cons_of_mem _ hq)) p hp
  unfold putT
  split
  · exact rp h
  · intro p hp
    rcases List.mem_append.mp hp with hp | hp
    · exact h p hp
    · rw [List.mem_singleton.mp hp]; exact hv
end
/-! ### rows in order -/
section
variable {κ ν : Type} [Emb κ] [Emb ν] [DecidableEq κ]
def Inc (xs : List (κ × ν)) : Prop := xs.Pairwise fun p q => ltE p.1 q.1 = true
theorem inc_nd {xs : List (κ × ν)} (h : Inc xs) : ND xs := by
  unfold ND
  exact List.pairwise_map.mpr (h.imp fun a => ltE_ne a)
theorem inc_sorted {xs : List (κ × ν)} (h : Inc xs) : xs.Pairwise fun a b => leE a b = true := h.imp fun {a b} q => leE_of_lt (by rw [ltE_fst (ltE_ne q)]; exact q)
theorem inc_srt {xs : List (κ × ν)} (h : ND xs) : Inc (srt xs) := by
  have h1 := srt_pair xs
  have h2 := nd_perm (srt_perm xs).symm h
  unfold ND at h2
  exact (h1.and (List.pairwise_map.mp h2)).imp fun {a b} ⟨q1, q2⟩ => by
    have := ltE_of_le q1 fun e => q2 (congrArg (·.1) e)
    rwa [ltE_fst q2] at this
theorem inc_one {a b : List (κ × ν)} (ha : Inc a) (hb : Inc b) (h : ∀ q, getT a q = getT b q) : a = b := sorted_one (inc_sorted ha) (inc_sorted hb) (perm_of_get (inc_nd ha) (inc_nd hb) h)
theorem srt_inc {xs : List (κ × ν)} (h : Inc xs) : srt xs = xs := srt_id (inc_sorted h)
theorem get_srt {xs : List (κ × ν)} (h : ND xs) (q : κ) : getT (srt xs) q = getT xs q := (get_perm (srt_perm xs).symm h q).symm
end
end DL

set_option Elab.async false
set_option linter.all false
set_option maxRecDepth 100000
set_option maxHeartbeats 4000000
set_option autoImplicit false
/-! Typed dicts in the store. -/
namespace DL
open PySem L2
open Emb
/-- what may be a key: texts, numbers (pk), tuples -/
class KeyE (κ : Type) [Emb κ] [DecidableEq κ] where
  pk : Bool
  plain : pk = true → ∀ a : κ, isKey (toD a) = true ∧ ∀ b : κ, keyEq (toD a) (toD b) = decide (a = b)
  nest : pk = false → ∀ a : κ, isKey (toD a) = false ∧ isKeyN (toD a) = true ∧ ∀ b : κ, eqN (toD a) (toD b) = decide (a = b)
/-- things that can be tuple keys, and stand in such -/
class NkE (κ : Type) [Emb κ] where
  nk : κ → NestedKey
  nkOk : ∀ a : κ, keyN (toD a) = some (nk a)
  nkInj : ∀ a b : κ, nk a = nk b → a = b
  kdeg : Nat
  nkDep : ∀ a : κ, (nk a).depth ≤ kdeg
open NkE
instance : NkE Int where
  nk := .num
  nkOk := fun _ => by unfold keyN; rfl
  nkInj := fun a b h => by cases h; rfl
  kdeg := 0
  nkDep := fun a => by simp [NestedKey.depth]
instance : NkE Str where
  nk := .text
  nkOk := fun _ => by unfold keyN; rfl
  nkInj := fun a b h => by cases h; rfl
  kdeg := 0
  nkDep := fun a => by simp [NestedKey.depth]
section
variable {α β : Type} [Emb α] [Emb β] [NkE α] [NkE β]
theorem nks_ok : ∀ xs : List α, keyNs (xs.map toD) = some (xs.map nk)
  | [] => by unfold List.map keyNs; rfl
  | x :: r => by unfold List.map keyNs; rw [nkOk x, nks_ok r]
theorem nks_inj : ∀ xs ys : List α, xs.map nk = ys.map nk → xs = ys
  | [], [], _ => rfl
  | [], _ :: _, h => nomatch h
  | _ :: _, [], h => nomatch h
  | x :: r, y :: q, h => by
    simp only [List.map_cons, List.cons.injEq] at h
    rw [nkInj x y h.1, nks_inj r q h.2]
theorem nks_dep : ∀ xs : List α, NestedKey.depthAll (xs.map nk) ≤ kdeg α
  | [] => by simp [NestedKey.depthAll]
  | x :: r => by
    have h1 := nkDep x
    have h2 := nks_dep r
    simp only [List.map_cons, NestedKey.depthAll]
    omega
instance : NkE (α × β) where
  nk := fun p => .tup [nk p.1, nk p.2]
  nkOk := fun p => by
    show keyN (.tup [toD p.1, toD p.2]) = _
    unfold keyN keyNs keyNs keyNs
    rw [nkOk, nkOk]; rfl
  nkInj := fun a b h => by
    simp only [NestedKey.tup.injEq, List.cons.injEq] at h
    exact Prod.ext (nkInj _ _ h.1) (nkInj _ _ h.2.1)
  kdeg := max (kdeg α) (kdeg β) + 1
  nkDep := fun a => by
    have h1 := nkDep a.1
    have h2 := nkDep a.2
    simp only [NestedKey.depth, NestedKey.depthAll]
    omega
instance : NkE (List α) where
  nk := fun xs => .tup (xs.map nk)
  nkOk := fun xs => by
    show keyN (.tup (xs.map toD)) = _
    unfold keyN
    rw [nks_ok]; rfl
  nkInj := fun a b h => by
    simp only [NestedKey.tup.injEq] at h
    exact nks_inj _ _ h
  kdeg := kdeg α + 1
  nkDep := fun a => by
    have := nks_dep a
    simp only [NestedKey.depth]
    omega
end
theorem nest_of {κ : Type} [Emb κ] [DecidableEq κ] [NkE κ] (ht : ∀ a : κ, ∃ ds, (toD a : D) = .tup ds) (hd : kdeg κ ≤ 8) (a : κ) : isKey (toD a) = false ∧ isKeyN (toD a) = true ∧ ∀ b : κ, eqN (toD a) (toD b) = decide (a = b) := by
  obtain ⟨ds, e⟩ := ht a
  refine ⟨by rw [e]; rfl, ?_, fun b => ?_⟩
  · have h := nkOk a
    rw [e] at h ⊢
    unfold isKeyN
    dsimp only
    rw [h]
    exact decide_eq_true (Nat.le_trans (nkDep a) hd)
  · rw [eqN_dec (nkOk a) (nkOk b)]
    by_cases h : a = b
    · subst h; rw [decide_eq_true rfl, decide_eq_true rfl]
    · rw [decide_eq_false h, decide_eq_false fun z => h (nkInj _ _ z)]
instance : KeyE Str where
  pk := true
  plain := fun _ a => ⟨rfl, fun b => by
    show keyEq (kD (.inr a)) (kD (.inr b)) = _
    rw [keyEq_kD]
    by_cases h : a = b
    · subst h; rw [decide_eq_true rfl, decide_eq_true rfl]
    · rw [decide_eq_false h, decide_eq_false fun z => h (by cases z; rfl)]⟩
  nest := fun h => nomatch h
instance : KeyE Int where
  pk := true
  plain := fun _ a => ⟨rfl, fun b => by
    show keyEq (kD (.inl a)) (kD (.inl b)) = _
    rw [keyEq_kD]
    by_cases h : a = b
    · subst h; rw [decide_eq_true rfl, decide_eq_true rfl]
    · rw [decide_eq_false h, decide_eq_false fun z => h (by cases z; rfl)]⟩
  nest := fun h => nomatch h
section
variable {κ ν : Type} [Emb κ] [Emb ν] [DecidableEq κ] [KeyE κ]
def kvD (kvs : List (κ × ν)) : List (D × D) := kvs.map fun p => (toD p.1, toD p.2)
theorem kvD_len (kvs : List (κ × ν)) : (kvD kvs).length = kvs.length := List.length_map _
theorem lookD_kv (hp : KeyE.pk κ = true) (kvs : List (κ × ν)) (k : κ) : lookD (kvD kvs) (toD k) = (getT kvs k).map toD := by
  induction kvs with
  | nil => rfl
  | cons p r ih =>
    show (if keyEq (toD p.1) (toD k) = true then some (toD p.2) else lookD (kvD r) (toD k)) = Option.map toD (if p.1 = k then some p.2 else getT r k)
    rw [((KeyE.plain hp p.1).2 k), ih]
    by_cases h : p.1 = k
    · rw [decide_eq_true h, if_pos h, if_pos rfl]; rfl
    · rw [decide_eq_false h, if_neg h, if_neg Bool.false_ne_true]
theorem lookN_kv (hp : KeyE.pk κ = false) (kvs : List (κ × ν)) (k : κ) : lookN (kvD kvs) (toD k) = (getT kvs k).map toD := by
  induction kvs with
  | nil => rfl
  | cons p r ih =>
    show (if eqN (toD p.1) (toD k) = true then some (toD p.2) else lookN (kvD r) (toD k)) = Option.map toD (if p.1 = k then some p.2 else getT r k)
    rw [((KeyE.nest hp p.1).2.2 k), ih]
    by_cases h : p.1 = k
    · rw [decide_eq_true h, if_pos h, if_pos rfl]; rfl
    · rw [decide_eq_false h, if_neg h, if_neg Bool.false_ne_true]
theorem replD_kv (hp : KeyE.pk κ = true) (kvs : List (κ × ν)) (k : κ) (v : ν) : replD (kvD kvs) (toD k) (toD v) = kvD (replT kvs k v) := by
  induction kvs with
  | nil => rfl
  | cons p r ih =>
    show (if keyEq (toD p.1) (toD k) = true then (toD p.1, toD v) :: replD (kvD r) (toD k) (toD v) else (toD p.1, toD p.2) :: replD (kvD r) (toD k) (toD v)) = kvD (if p.1 = k then (p.1, v) :: replT r k v else (p.1, p.2) :: replT r k v)
    rw [((KeyE.plain hp p.1).2 k), ih]
    by_cases h : p.1 = k
    · rw [decide_eq_true h, if_pos h, if_pos rfl]; rfl
    · rw [decide_eq_false h, if_neg h, if_neg Bool.false_ne_true]; rfl
theorem replN_kv (hp : KeyE.pk κ = false) (kvs : List (κ × ν)) (k : κ) (v : ν) : replN (kvD kvs) (toD k) (toD v) = kvD (replT kvs k v) := by
  induction kvs with
  | nil => rfl
  | cons p r ih =>
    show (if eqN (toD p.1) (toD k) = true then (toD p.1, toD v) :: replN (kvD r) (toD k) (toD v) else (toD p.1, toD p.2) :: replN (kvD r) (toD k) (toD v)) = kvD (if p.1 = k then (p.1, v) :: replT r k v else (p.1, p.2) :: replT r k v)
    rw [((KeyE.nest hp p.1).2.2 k), ih]
    by_cases h : p.1 = k
    · rw [decide_eq_true h, if_pos h, if_pos rfl]; rfl
    · rw [decide_eq_false h, if_neg h, if_neg Bool.false_ne_true]; rfl
theorem putD_kv (hp : KeyE.pk κ = true) (kvs : List (κ × ν)) (k : κ) (v : ν) : putD (kvD kvs) (toD k) (toD v) = kvD (putT kvs k v) := by
  unfold putD putT
  rw [lookD_kv hp, replD_kv hp, Option.isSome_map]
  cases (getT kvs k).isSome with
  | true => rfl
  | false => show kvD kvs ++ _ = kvD (kvs ++ _); unfold kvD; rw [List.map_append]; rfl
theorem putN_kv (hp : KeyE.pk κ = false) (kvs : List (κ × ν)) (k : κ) (v : ν) : putN (kvD kvs) (toD k) (toD v) = kvD (putT kvs k v) := by
  unfold putN putT
  rw [lookN_kv hp, replN_kv hp, Option.isSome_map]
  cases (getT kvs k).isSome with
  | true => rfl
  | false => show kvD kvs ++ _ = kvD (kvs ++ _); unfold kvD; rw [List.map_append]; rfl
theorem mergeD_kv (hp : KeyE.pk κ = true) : ∀ (more kvs : List (κ × ν)), mergeD (kvD kvs) (kvD more) = kvD (mergeT kvs more)
  | [], _ => rfl
  | p :: r, kvs => by
    show mergeD (putD (kvD kvs) (toD p.1) (toD p.2)) (kvD r) = kvD (mergeT (putT kvs p.1 p.2) r)
    rw [putD_kv hp, mergeD_kv hp r]
theorem mergeN_kv (hp : KeyE.pk κ = false) : ∀ (more kvs : List (κ × ν)), mergeN (kvD kvs) (kvD more) = kvD (mergeT kvs more)
  | [], _ => rfl
  | p :: r, kvs => by
    show mergeN (putN (kvD kvs) (toD p.1) (toD p.2)) (kvD r) = kvD (mergeT (putT kvs p.1 p.2) r)
    rw [putN_kv hp, mergeN_kv hp r]
/-- u is the dict of these -/
def IsDic (u : D) (kvs : List (κ × ν)) : Prop := (kvs = [] ∧ u = .dct []) ∨ (KeyE.pk κ = true ∧ u = .dct (kvD kvs)) ∨ (KeyE.pk κ = false ∧ u = .dcn (kvD kvs))
theorem isDic_nil : IsDic (.dct []) ([] : List (κ × ν)) := .inl ⟨rfl, rfl⟩
theorem isDic_closed {u : D} {kvs : List (κ × ν)} (h : IsDic u kvs) (n : Nat) : D.closed n u = true := by
  have key : ∀ kvs : List (κ × ν), closedK n (kvD kvs) = true := fun kvs => by
    induction kvs with
    | nil => rfl
    | cons p r ih => show closedK n ((toD p.1, toD p.2) :: kvD r) = true; unfold closedK; rw [cl, cl, ih]; rfl
  rcases h with ⟨_, rfl⟩ | ⟨_, rfl⟩ | ⟨_, rfl⟩
  · rfl
  · unfold D.closed; exact key kvs
  · unfold D.closed; exact key kvs
theorem isDic_owned {u : D} {kvs : List (κ × ν)} (h : IsDic u kvs) : u.owned = true := by
  rcases h with ⟨_, rfl⟩ | ⟨_, rfl⟩ | ⟨_, rfl⟩ <;> rfl
theorem dic_deref {S : Sto} {j : Nat} {u : D} {kvs : List (κ × ν)} (h : IsDic u kvs) (hj : S[j]? = some u) : deref S (.ptr j) = u := by
  unfold deref
  dsimp only
  rw [show S.getD j .non = u by rw [List.getD_eq_getElem?_getD, hj]; rfl]
  rcases h with ⟨_, rfl⟩ | ⟨_, rfl⟩ | ⟨_, rfl⟩ <;> rfl
theorem dic_isDct {S : Sto} {j : Nat} {u : D} {kvs : List (κ × ν)} (h : IsDic u kvs) (hj : S[j]? = some u) : isDct S (.ptr j) = true := by
  unfold isDct
  rw [dic_deref h hj]
  rcases h with ⟨_, rfl⟩ | ⟨_, rfl⟩ | ⟨_, rfl⟩ <;> rfl
theorem dic_lookU {S : Sto} {j : Nat} {u : D} {kvs : List (κ × ν)} (h : IsDic u kvs) (hj : S[j]? = some u) (k : κ) : lookU S (.ptr j) (toD k) = some ((getT kvs k).map toD) := by
  unfold lookU
  rw [dic_deref h hj]
  rcases h with ⟨rfl, rfl⟩ | ⟨hp, rfl⟩ | ⟨hp, rfl⟩
  · dsimp only
    cases hp : KeyE.pk κ with
    | true => rw [if_pos (KeyE.plain hp k).1]; rfl
    | false =>
      rw [if_neg (by rw [(KeyE.nest hp k).1]; decide)]
      first
        | (rw [if_pos (by simp [(KeyE.nest hp k).2.1])]; rfl)
        | rfl
  · dsimp only
    rw [if_pos (KeyE.plain hp k).1, lookD_kv hp]
  · dsimp only
    rw [if_pos (KeyE.nest hp k).2.1, lookN_kv hp]
theorem dic_putU {u : D} {kvs : List (κ × ν)} (h : IsDic u kvs) (hl : kvs.length < sizeLine) (k : κ) (v : ν) : ∃ u', putU u (toD k) (toD v) = some u' ∧ IsDic u' (putT kvs k v) := by
  rcases h with ⟨rfl, rfl⟩ | ⟨hp, rfl⟩ | ⟨hp, rfl⟩
  · cases hp : KeyE.pk κ with
    | true =>
      refine ⟨.dct (kvD (putT ([] : List (κ × ν)) k v)), ?_, .inr (.inl ⟨hp, rfl⟩)⟩
      unfold putU
      dsimp only
      rw [if_pos (KeyE.plain hp k).1]
      rfl
    | false =>
      refine ⟨.dcn (kvD (putT ([] : List (κ × ν)) k v)), ?_, .inr (.inr ⟨hp, rfl⟩)⟩
      unfold putU
      dsimp only
      rw [if_neg (by rw [(KeyE.nest hp k).1]; decide), (KeyE.nest hp k).2.1]
      rfl
  · refine ⟨.dct (kvD (putT kvs k v)), ?_, .inr (.inl ⟨hp, rfl⟩)⟩
    unfold putU
    dsimp only
    rw [if_pos (KeyE.plain hp k).1, kvD_len, if_pos hl, putD_kv hp]
  · refine ⟨.dcn (kvD (putT kvs k v)), ?_, .inr (.inr ⟨hp, rfl⟩)⟩
    unfold putU
    dsimp only
    rw [(KeyE.nest hp k).2.1, kvD_len, decide_eq_true hl, putN_kv hp]
    rfl
theorem pairsOf_kv : ∀ kvs : List (κ × ν), pairsOf (kvs.map toD) = some (kvD kvs)
  | [] => rfl
  | p :: r => by
    show pairsOf (.tup [toD p.1, toD p.2] :: r.map toD) = some ((toD p.1, toD p.2) :: kvD r)
    unfold pairsOf
    rw [pairsOf_kv r]
    rfl
theorem dictOf_kv (kvs : List (κ × ν)) : ∃ u, dictOf (kvD kvs) = some u ∧ IsDic u (mergeT [] kvs) := by
  unfold dictOf
  cases kvs with
  | nil => exact ⟨.dct [], rfl, .inl ⟨rfl, rfl⟩⟩
  | cons p r =>
    cases hp : KeyE.pk κ with
    | true =>
      have e : (kvD (p :: r)).all (fun p => isKey p.1) = true := List.all_eq_true.mpr fun q hq => by
        obtain ⟨a, _, rfl⟩ := List.mem_map.mp hq
        exact (KeyE.plain hp a.1).1
      rw [e]
      exact ⟨_, rfl, .inr (.inl ⟨hp, congrArg D.dct (mergeD_kv hp (p :: r) [])⟩)⟩
    | false =>
      have e : (kvD (p :: r)).all (fun p => isKey p.1) = false := by
        show (isKey (toD p.1) && _) = false
        rw [(KeyE.nest hp p.1).1]; rfl
      have e2 : (kvD (p :: r)).all (fun p => isKeyN p.1) = true := List.all_eq_true.mpr fun q hq => by
        obtain ⟨a, _, rfl⟩ := List.mem_map.mp hq
        exact (KeyE.nest hp a.1).2.1
      rw [e, e2]
      exact ⟨_, rfl, .inr (.inr ⟨hp, congrArg D.dcn (mergeN_kv hp (p :: r) [])⟩)⟩
theorem dict_of (S : Sto) (kvs : List (κ × ν)) : ∃ u, gDict S [.lst (kvs.map toD)] = some u ∧ gDict S [.tup (kvs.map toD)] = some u ∧ IsDic u (mergeT [] kvs) := by
  obtain ⟨u, h1, h2⟩ := dictOf_kv kvs
  refine ⟨u, ?_, ?_, h2⟩
  · show (pairsOf (kvs.map toD)).bind dictOf = some u
    rw [pairsOf_kv]; exact h1
  · show (pairsOf (kvs.map toD)).bind dictOf = some u
    rw [pairsOf_kv]; exact h1
/-- the pairs of a dict that is walked -/
theorem dic_items {S : Sto} {j : Nat} {u : D} {kvs : List (κ × ν)} (h : IsDic u kvs) (hj : S[j]? = some u) : lckOf (S.set j (.lck u)) (.ptr j) = some (kvD kvs) := by
  have hlt := (List.getElem?_eq_some_iff.mp hj).1
  unfold lckOf
  dsimp only
  rw [List.getElem?_set_self hlt]
  rcases h with ⟨rfl, rfl⟩ | ⟨_, rfl⟩ | ⟨_, rfl⟩ <;> rfl
theorem dic_itemsOf {S : Sto} {j : Nat} {u : D} {kvs : List (κ × ν)} (h : IsDic u kvs) (hj : S[j]? = some u) : itemsOf (deref S (.ptr j)) = some (kvs.map toD) := by
  rw [dic_deref h hj]
  have e : (kvD kvs).map (fun p => D.tup [p.1, p.2]) = kvs.map toD := by unfold kvD; rw [List.map_map]; rfl
  rcases h with ⟨rfl, rfl⟩ | ⟨_, rfl⟩ | ⟨_, rfl⟩
  · rfl
  · show some _ = some _; rw [e]
  · show some _ = some _; rw [e]
end
end DL

set_option Elab.async false
set_option linter.all false
set_option maxRecDepth 100000
set_option maxHeartbeats 4000000
set_option autoImplicit false
/-! Plain tools, for every law. -/
namespace DL
open PySem L2
open Emb
theorem closedL_iff {n : Nat} : ∀ {xs : List D}, closedL n xs = true ↔ ∀ (i : Nat) (x : D), xs[i]? = some x → D.closed n x = true
  | [] => ⟨fun _ i x h => by simp at h, fun _ => rfl⟩
  | a :: r => by
    unfold closedL
    rw [Bool.and_eq_true, closedL_iff (xs := r)]
    constructor
    · rintro ⟨h1, h2⟩ i x hx
      cases i with
      | zero => simp at hx; subst hx; exact h1
      | succ i => exact h2 i x (by simpa using hx)
    · intro h
      exact ⟨h 0 a rfl, fun i x hx => h (i + 1) x (by simpa using hx)⟩
theorem take_app {S : Sto} {a : D} : (S ++ [a]).take S.length = S := List.take_left' rfl
theorem set_app {S : Sto} {a b : D} : (S ++ [a]).set S.length b = S ++ [b] := by
  rw [List.set_append_right _ _ (Nat.le_refl _), Nat.sub_self]
  rfl
theorem get_app {S : Sto} {a : D} : (S ++ [a])[S.length]? = some a := by
  rw [List.getElem?_append_right (Nat.le_refl _), Nat.sub_self]
  rfl
theorem deref_app {S : Sto} {xs : List D} : deref (S ++ [.lst xs]) (.ptr S.length) = .lst xs := by
  unfold deref
  dsimp only
  rw [List.getD_eq_getElem?_getD, get_app]
  rfl
/-- a def that drops what it made -/
theorem m_defJ {n : Nat} {b : RS} {ds : List D} {S : Sto} {d : D} (hS : Sane S) (hd : D.closed S.length d = true) (h : (b (ds.map some ++ List.replicate (n - ds.length) none) S).post NoS (fun z S1 => z = d ∧ S1.take S.length = S) NoS NoS) : mDef n b ds S = .ok d S :=
  same_of (m_def (h.mono (fun _ _ z => z.elim) (fun z S1 ⟨e1, e2⟩ => by
    rw [e1, hd, e2, show closedL S.length S = true from hS]
    exact ⟨rfl, rfl, rfl⟩) (fun _ _ z => z) (fun _ _ z => z)))
theorem p_sortSet {a : RE} {δ : Sl} {S : Sto} {Q : D → Sto → Prop} (h : (a δ S).post fun d S1 => ∃ ts : List Str, deref S1 d = .lst (ts.map .str) ∧ ts.length + 1 < scanBound ∧ ts.length ≤ sizeLine ∧ Q (.lst ((setT ts).map .str)) S1) : (rSortSet a δ S).post Q :=
  p_bind (h.mono fun d S1 ⟨ts, e, h1, h2, q⟩ => by
    rw [e]
    dsimp only
    have as : ∀ xs : List Str, asStrs (xs.map D.str) = some xs := fun xs => by
      induction xs with
      | nil => rfl
      | cons x xs ih => unfold List.map asStrs; rw [ih]; rfl
    rw [as ts]
    dsimp only
    rw [if_pos ⟨h1, h2⟩]
    exact q)
theorem p_append {δ : Sl} {S S0 : Sto} {x e : RE} {xs : List D} {Q : D → Sto → Prop} (h : (x δ S).post fun d S1 => d = .ptr S0.length ∧ S1 = S0 ++ [.lst xs] ∧ xs.length < sizeLine ∧ (e δ S1).post fun y S2 => S2 = S1 ∧ Q .non (S0 ++ [.lst (xs ++ [y])])) : (rMeth "list" mAppend x (rCons e rNil) δ S).post Q := by
  refine p_meth (h.mono fun d S1 ⟨e1, e2, e3, q⟩ => ?_)
  subst e1
  subst e2
  refine ⟨?_, ?_⟩
  · unfold isTy
    rw [deref_app]
    rfl
  · refine p_cons (q.mono fun y S2 ⟨e4, q2⟩ => p_nil ?_)
    subst e4
    refine ⟨.non, S0 ++ [.lst (xs ++ [y])], ?_, q2⟩
    unfold mAppend
    dsimp only
    rw [get_app]
    dsimp only
    rw [if_pos e3, set_app]
theorem o_getU {S : Sto} {k : Nat} {q v : D} {kvs : List (D × D)} {Q : D → Sto → Prop} (h : S[k]? = some (.dct kvs)) (hq : isKey q = true) (e : lookD kvs q = some v) (f : Q v S) : (Res.lift (gGetU S (.ptr k) q) S).post Q :=
  p_lift (by
    have hd : deref S (.ptr k) = .dct kvs := by
      unfold deref
      dsimp only
      rw [show S.getD k .non = .dct kvs by rw [List.getD_eq_getElem?_getD, h]; rfl]
    unfold gGetU lookU
    rw [hd]
    dsimp only
    rw [if_pos hq, e]) f
theorem s_putU {δ : Sl} {S : Sto} {d k v : RE} {N B C : Sl → Sto → Prop} {T : D → Sto → Prop} (h : (v δ S).post fun z S1 => (d δ S1).post fun x S2 => (k δ S2).post fun y S3 => ∃ n u u', x = .ptr n ∧ S3[n]? = some u ∧ putU u y z = some u' ∧ N δ (S3.set n u')) : (sPutU d k v δ S).post N T B C :=
  p_out (h.mono fun z S1 q => p_out (q.mono fun x S2 q => p_out (q.mono fun y S3 ⟨n, u, u', e1, e2, e3, q'⟩ => by
    subst e1
    dsimp only
    rw [e2]
    dsimp only
    rw [e3]
    exact q')))
theorem s_setL {δ : Sl} {S : Sto} {d k v : RE} {N B C : Sl → Sto → Prop} {T : D → Sto → Prop} (h : (v δ S).post fun z S1 => (d δ S1).post fun x S2 => (k δ S2).post fun y S3 => ∃ n i xs j, x = .ptr n ∧ y = .int i ∧ S3[n]? = some (.lst xs) ∧ ixN xs.length i = some j ∧ N δ (S3.set n (.lst (xs.set j z)))) : (sSetL d k v δ S).post N T B C :=
  p_out (h.mono fun z S1 q => p_out (q.mono fun x S2 q => p_out (q.mono fun y S3 ⟨n, i, xs, j, e1, e2, e3, e4, q'⟩ => by
    subst e1
    subst e2
    dsimp only
    rw [e3]
    dsimp only
    rw [e4]
    exact q')))
theorem deref_at {S : Sto} {k : Nat} {xs : List D} (h : S[k]? = some (.lst xs)) : deref S (.ptr k) = .lst xs := by
  unfold deref
  dsimp only
  rw [show S.getD k .non = .lst xs by rw [List.getD_eq_getElem?_getD, h]; rfl]
theorem set_ints {rs : List Int} {j : Nat} {z : Int} : (rs.map D.int).set j (.int z) = (rs.set j z).map D.int := by rw [List.map_set]
theorem closed_ints' {m : Nat} : ∀ ns : List Int, closedL m (ns.map D.int) = true
  | [] => rfl
  | _ :: r => by unfold List.map closedL; rw [closed_ints' r]; rfl
theorem pow6 {δ : Sl} {S : Sto} {Q : D → Sto → Prop} {n : Nat} (hn : n ≤ 1000) (h : Q (.int (10 ^ n)) S) : (Res.lift (gPow S (.int 10) (.int n)) S).post Q := o_pow ⟨by omega, by omega, by decide⟩ (by
  have e : (n : Int).toNat = n := by omega
  rw [e]; exact h)
theorem p_get2 {a k x : RE} {δ : Sl} {S : Sto} {Q : D → Sto → Prop} (h : (a δ S).post fun d S1 => isDct S1 d = true ∧ (k δ S1).post fun q S2 => (x δ S2).post fun z S3 => ∃ o, lookU S3 d q = some o ∧ Q (o.getD z) S3) : (rGet2 a k x δ S).post Q :=
  p_bind (h.mono fun d S1 ⟨e, q⟩ => by
    rw [if_pos e]
    exact p_bind (q.mono fun y S2 q => p_bind (q.mono fun z S3 ⟨o, e2, q⟩ => p_lift (by rw [e2]; rfl) q)))
theorem deref_d {S : Sto} {k : Nat} {kvs : List (D × D)} (h : S[k]? = some (.dct kvs)) : deref S (.ptr k) = .dct kvs := by
  unfold deref
  dsimp only
  rw [show S.getD k .non = .dct kvs by rw [List.getD_eq_getElem?_getD, h]; rfl]
theorem p_items {a : RE} {δ : Sl} {S : Sto} {Q : List D → Sto → Prop} (h : (a δ S).post fun d S1 => ∃ kvs, lckOf S1 d = some kvs ∧ Q (pairsD kvs) S1) : (rItems a δ S).post Q := p_bind (h.mono fun d S1 ⟨kvs, e, q⟩ => p_lift (by rw [e]; rfl) q)
theorem s_freeze {i : Nat} {δ : Sl} {S S0 : Sto} {xs : List D} {N B C : Sl → Sto → Prop} {T : D → Sto → Prop} (e : δ[i]? = some (some (.ptr S0.length))) (es : S = S0 ++ [.lst xs]) (h : N (δ.set i (some (.lst xs))) (S0 ++ [.non])) : (sFreeze i δ S).post N T B C := by
  unfold sFreeze
  rw [e]
  dsimp only
  subst es
  rw [get_app]
  dsimp only
  rw [set_app]
  exact h
theorem not_t {b : Bool} (h : (!b) = true) : b = false := by
  cases b
  · rfl
  · cases h
theorem not_f {b : Bool} (h : (!b) = false) : b = true := by
  cases b
  · cases h
  · rfl
theorem s_lockN {i k : Nat} {δ : Sl} {S : Sto} {u : D} {r : RS} {N B C : Sl → Sto → Prop} {T : D → Sto → Prop} (e : δ[i]? = some (some (.ptr k))) (hk : S[k]? = some u) (hu : (∃ kvs, u = .dct kvs) ∨ ∃ kvs, u = .dcn kvs)
    (h : (r δ (S.set k (.lck u))).post (fun δ' S1 => S1[k]? = some (.lck u) ∧ N δ' (S1.set k u)) (fun z S1 => S1[k]? = some (.lck u) ∧ T z (S1.set k u)) NoS NoS) : (sLock i r δ S).post N T B C := by
  have hL : lockAt δ S i = some (k, u) := by
    unfold lockAt
    rw [e]
    dsimp only
    rw [hk]
    rcases hu with ⟨kvs, rfl⟩ | ⟨kvs, rfl⟩ <;> rfl
  unfold sLock
  rw [hL]
  dsimp only
  cases q : r δ (S.set k (.lck u)) with
  | rt z S1 =>
    rw [q] at h
    obtain ⟨h1, hT⟩ : S1[k]? = some (.lck u) ∧ T z (S1.set k u) := h
    unfold unlkO unlk
    dsimp only
    rw [h1]
    exact hT
  | nx δ' S1 =>
    rw [q] at h
    obtain ⟨h1, hT⟩ : S1[k]? = some (.lck u) ∧ N δ' (S1.set k u) := h
    unfold unlkO unlk
    dsimp only
    rw [h1]
    exact hT
  | _ => rw [q] at h; exact h.elim
theorem unset {S : Sto} {k : Nat} {u x : D} (hk : S[k]? = some u) : (S.set k x).set k u = S := by
  have hlt := (List.getElem?_eq_some_iff.mp hk).1
  rw [List.set_set]
  have := (List.getElem?_eq_some_iff.mp hk).2
  rw [← this]
  exact List.set_getElem_self hlt
/-- a walk over a locked dict that leaves the store -/
theorem s_lockS {κ ν : Type} [Emb κ] [Emb ν] [DecidableEq κ] [KeyE κ] {i k : Nat} {δ : Sl} {S : Sto} {u : D} {kvs : List (κ × ν)} {r : RS} {N B C : Sl → Sto → Prop} {T : D → Sto → Prop} (hd : IsDic u kvs) (hk : S[k]? = some u) (e : δ[i]? = some (some (.ptr k)))
    (h : (r δ (S.set k (.lck u))).post (fun δ' S1 => S1 = S.set k (.lck u) ∧ N δ' S) (fun z S1 => S1 = S.set k (.lck u) ∧ T z S) NoS NoS) : (sLock i r δ S).post N T B C := by
  have hlt := (List.getElem?_eq_some_iff.mp hk).1
  refine s_lockN e hk (by rcases hd with ⟨_, rfl⟩ | ⟨_, rfl⟩ | ⟨_, rfl⟩ <;> first | exact .inl ⟨_, rfl⟩ | exact .inr ⟨_, rfl⟩) (h.mono ?_ ?_ (fun _ _ z => z) (fun _ _ z => z))
  · rintro δ' S1 ⟨rfl, hN⟩
    exact ⟨List.getElem?_set_self hlt, by rw [unset hk]; exact hN⟩
  · rintro z S1 ⟨rfl, hT⟩
    exact ⟨List.getElem?_set_self hlt, by rw [unset hk]; exact hT⟩
/-- a comprehension over things of a kind, that leaves the store -/
theorem lcT {α β : Type} (ta : α → D) (tb : β → D) (f : α → Option β) {g : RG} {t : RB} {e : RE} {δ : Sl} {S : Sto} : ∀ {xs : List α}, (∀ a ∈ xs, ∃ δ1, g (ta a) δ S = .ok δ1 S ∧ ((f a = none ∧ t δ1 S = .ok false S) ∨ ∃ b, f a = some b ∧ t δ1 S = .ok true S ∧ e δ1 S = .ok (tb b) S)) → lcL g t e (xs.map ta) δ S = .ok ((xs.filterMap f).map tb) S
  | [], _ => rfl
  | x :: xs, h => by
    have ih := lcT ta tb f (g := g) (t := t) (e := e) (δ := δ) (S := S) (xs := xs) fun y hy => h y (List.mem_cons_of_mem _ hy)
    obtain ⟨δ1, h1, h2⟩ := h x List.mem_cons_self
    rw [List.map_cons]
    unfold lcL
    rw [h1]
    show (t δ1 S).bind _ = _
    rw [List.filterMap_cons]
    rcases h2 with ⟨e1, e2⟩ | ⟨y, e1, e2, e3⟩
    · rw [e2, e1]
      exact ih
    · rw [e2, e1]
      show (e δ1 S).bind _ = _
      rw [e3]
      show (lcL g t e (xs.map ta) δ S).bind _ = _
      rw [ih]
      rfl
/-- each turn one thing -/
theorem lcTm {α β : Type} (ta : α → D) (tb : β → D) (f : α → β) {g : RG} {e : RE} {δ : Sl} {S : Sto} {xs : List α} (h : ∀ a ∈ xs, ∃ δ1, g (ta a) δ S = .ok δ1 S ∧ e δ1 S = .ok (tb (f a)) S) : lcL g bYes e (xs.map ta) δ S = .ok ((xs.map f).map tb) S := by
  rw [lcT ta tb (fun a => some (f a)) fun a ha => by
    obtain ⟨δ1, h1, h2⟩ := h a ha
    exact ⟨δ1, h1, .inr ⟨_, rfl, rfl, h2⟩⟩]
  rw [show xs.filterMap (fun a => some (f a)) = xs.map f from congrFun (List.filterMap_eq_map) xs]
/-- each turn the thing itself, or nothing -/
theorem lcTf {α : Type} (ta tb : α → D) (p : α → Bool) {g : RG} {t : RB} {e : RE} {δ : Sl} {S : Sto} {xs : List α} (h : ∀ a ∈ xs, ∃ δ1, g (ta a) δ S = .ok δ1 S ∧ t δ1 S = .ok (p a) S ∧ (p a = true → e δ1 S = .ok (tb a) S)) : lcL g t e (xs.map ta) δ S = .ok ((xs.filter p).map tb) S := by
  rw [lcT ta tb (fun a => if p a = true then some a else none) fun a ha => by
    obtain ⟨δ1, h1, h2, h3⟩ := h a ha
    refine ⟨δ1, h1, ?_⟩
    cases q : p a with
    | true => exact .inr ⟨a, by simp, by rw [h2, q], h3 q⟩
    | false => exact .inl ⟨by simp, by rw [h2, q]⟩]
  congr 2
  clear h
  induction xs with
  | nil => rfl
  | cons x r ih =>
    rw [List.filterMap_cons, List.filter_cons, ih]
    cases p x <;> rfl
/-- a def that drops what it made, told of by its answer's post -/
theorem m_defJQ {n : Nat} {b : RS} {ds : List D} {S : Sto} {Q : D → Sto → Prop} (hS : Sane S) (h : (b (ds.map some ++ List.replicate (n - ds.length) none) S).post NoS (fun z S1 => D.closed S.length z = true ∧ S1.take S.length = S ∧ Q z S) NoS NoS) : (mDef n b ds S).post Q :=
  m_def (h.mono (fun _ _ z => z.elim) (fun z S1 ⟨e1, e2, e3⟩ => by
    rw [e1, e2, show closedL S.length S = true from hS]
    exact ⟨rfl, e3⟩) (fun _ _ z => z) (fun _ _ z => z))
/-- a def that leaves what it made -/
theorem m_defK {n : Nat} {b : RS} {ds : List D} {S : Sto} {Q : D → Sto → Prop} (h : (b (ds.map some ++ List.replicate (n - ds.length) none) S).post (fun _ S1 => Q .non S1) Q NoS NoS) : (mDefK n b ds S).post Q := by
  unfold mDefK
  cases q : b (ds.map some ++ List.replicate (n - ds.length) none) S with
  | nx δ S1 => rw [q] at h; exact h
  | rt d S1 => rw [q] at h; exact h
  | _ => rw [q] at h; exact h.elim
theorem p_sortIt {a : RE} {δ : Sl} {S : Sto} {Q : D → Sto → Prop} (h : (a δ S).post fun d S1 => ∃ xs, (itemsOf (deref S1 d)).bind (sortD S1) = some xs ∧ Q (.lst xs) S1) : (rSortItems a δ S).post Q :=
  p_bind (h.mono fun d S1 ⟨xs, e, q⟩ => p_lift (a := .lst xs) (by rw [e]; rfl) q)
theorem take_le {S S1 : Sto} (hl : S.length ≤ S1.length) (h : ∀ k, k < S.length → S1[k]? = S[k]?) : S1.take S.length = S := by
  refine List.ext_getElem? fun k => ?_
  rw [List.getElem?_take]
  split
  · rename_i hk; exact h k hk
  · rename_i hk; exact (List.getElem?_eq_none (by omega)).symm
theorem app_at {S : Sto} {u : D} {k : Nat} (h : k < S.length) : (S ++ [u])[k]? = S[k]? := List.getElem?_append_left h
/-- the loop's law over things of a kind: I what is left -/
theorem s_forT {α : Type} (ta : α → D) {g : RG} {b : RS} {N B C : Sl → Sto → Prop} {T : D → Sto → Prop} (I : List α → Sl → Sto → Prop) (step : ∀ x xs δ S, I (x :: xs) δ S → (g (ta x) δ S).post fun δ1 S1 => (b δ1 S1).post (fun δ2 S2 => I xs δ2 S2) T N fun δ2 S2 => I xs δ2 S2) (fin : ∀ δ S, I [] δ S → N δ S)
    (xs : List α) (δ : Sl) (S : Sto) (h : I xs δ S) : (forL g b (xs.map ta) δ S).post N T B C :=
  s_forL (fun ds δ S => ∃ xs : List α, ds = xs.map ta ∧ I xs δ S) (fun x ds δ S ⟨xs, e, h⟩ => by
    cases xs with
    | nil => cases e
    | cons y ys =>
      rw [List.map_cons, List.cons.injEq] at e
      obtain ⟨rfl, rfl⟩ := e
      exact (step y ys δ S h).mono fun δ1 S1 q => q.mono (fun _ _ z => ⟨ys, rfl, z⟩) (fun _ _ z => z) (fun _ _ z => z) (fun _ _ z => ⟨ys, rfl, z⟩)) (fun δ S ⟨xs, e, h⟩ => by
    cases xs with
    | nil => exact fin δ S h
    | cons y ys => cases e) (xs.map ta) δ S ⟨xs, rfl, h⟩
section
variable {κ : Type} [Emb κ]
theorem eqv_emb (a b : κ) [DecidableEq κ] (hr : ∀ a : κ, PyData.eqv (py a) (py a) = true) : PyData.eqv (py a) (py b) = decide (a = b) := by
  by_cases h : a = b
  · subst h; rw [hr, decide_eq_true rfl]
  · rw [decide_eq_false h]
    cases q : PyData.eqv (py a) (py b) with
    | false => rfl
    | true => exact absurd (inj _ _ q) h
end
mutual
theorem eqv_refl : ∀ x : PyData, fitP x = true → PyData.eqv x x = true
  | .none, _ => by simp [PyData.eqv]
  | .bool b, _ => by simp [PyData.eqv]
  | .int i, _ => by simp [PyData.eqv]
  | .str x, _ => by simp [PyData.eqv]
  | .list xs, h => by simp only [PyData.eqv]; exact eqvs_refl xs (by unfold fitP at h; exact h)
  | .tuple xs, h => by simp only [PyData.eqv]; exact eqvs_refl xs (by unfold fitP at h; exact h)
  | .dict _, h => by unfold fitP at h; cases h
theorem eqvs_refl : ∀ xs : List PyData, fitPs xs = true → PyData.eqvAll xs xs = true
  | [], _ => by simp [PyData.eqvAll]
  | x :: r, h => by
    unfold fitPs at h
    rw [Bool.and_eq_true] at h
    simp only [PyData.eqvAll, eqv_refl x h.1, eqvs_refl r h.2, Bool.and_self]
end
end DL

set_option Elab.async false
set_option linter.all false
set_option maxRecDepth 100000
set_option maxHeartbeats 4000000
set_option autoImplicit false
/-! Products of boxes, kinds, fractions: typed. -/
namespace DL
open PySem L2
open Emb
/-! ### fractions -/
instance : Emb Rat where
  toD := fun q => .tup [.int q.num, .int q.den]
  py := fun q => .tuple [.int q.num, .int q.den]
  deg := 1
  pyOk := fun _ _ => rfl
  np := fun _ _ h => nomatch h
  al := fun a b => by simp [PySem.W.alike, PySem.W.alikeAll]
  dep := fun a => by simp [PyData.depth, PyData.depthAll]
  inj := fun a b h => by
    simp only [PyData.eqv, PyData.eqvAll, Bool.and_eq_true, beq_iff_eq] at h
    exact Rat.ext h.1 (Int.ofNat.inj h.2.1)
  cl := fun _ _ => rfl
theorem rat_nd (q : Rat) : (q.num : Rat) / ((q.den : Nat) : Rat) = q := by
  have h := Rat.num_divInt_den q
  rw [Rat.divInt_eq_div] at h
  exact_mod_cast h
theorem toD_rat (q : Rat) : (toD q : D) = .tup [.int q.num, .int q.den] := rfl
theorem rat_of {a b : Int} (hb : 0 < b) : ((a : Rat) / (b : Rat)).num = a.fdiv (Int.gcd a b) ∧ (((a : Rat) / (b : Rat)).den : Int) = b.fdiv (Int.gcd a b) := by
  have hg : 0 < Int.gcd a b := Int.gcd_pos_of_ne_zero_right _ (by omega)
  have d1 : (Int.gcd a b : Int) ∣ a := Int.gcd_dvd_left ..
  have d2 : (Int.gcd a b : Int) ∣ b := Int.gcd_dvd_right ..
  rw [Int.fdiv_eq_ediv_of_nonneg _ (by omega), Int.fdiv_eq_ediv_of_nonneg _ (by omega)]
  have y0 : 0 < b / (Int.gcd a b : Int) := Int.ediv_pos_of_pos_of_dvd hb (by omega) d2
  have cop : Int.gcd (a / (Int.gcd a b : Int)) (b / (Int.gcd a b : Int)) = 1 := by
    have := Int.gcd_ediv d1 d2
    rw [this]
    exact Nat.div_self (by simpa using hg)
  obtain ⟨n, hn⟩ : ∃ n : Nat, b / (Int.gcd a b : Int) = n := ⟨(b / (Int.gcd a b : Int)).toNat, by omega⟩
  have hn0 : n ≠ 0 := by omega
  have hc : (a / (Int.gcd a b : Int)).natAbs.Coprime n := by
    unfold Nat.Coprime
    rw [hn] at cop
    exact cop
  have e : (a : Rat) / (b : Rat) = Rat.mk' (a / (Int.gcd a b : Int)) n hn0 hc := by
    have h1 := rat_nd (Rat.mk' (a / (Int.gcd a b : Int)) n hn0 hc)
    have h1 : ((a / (Int.gcd a b : Int) : Int) : Rat) / ((n : Nat) : Rat) = Rat.mk' (a / (Int.gcd a b : Int)) n hn0 hc := h1
    rw [← h1]
    have hb' : (b : Rat) ≠ 0 := by simp; omega
    have hn' : (n : Rat) ≠ 0 := by simp; omega
    have hx : a * (n : Int) = (a / (Int.gcd a b : Int)) * b := by
      rw [← hn]
      obtain ⟨x, hx⟩ := d1
      obtain ⟨y, hy⟩ := d2
      have hgg : (Int.gcd a b : Int) ≠ 0 := by omega
      generalize (Int.gcd a b : Int) = g at *
      subst hx; subst hy
      rw [Int.mul_ediv_cancel_left _ hgg, Int.mul_ediv_cancel_left _ hgg]
      grind
    have hx' : (a : Rat) * (n : Rat) = ((a / (Int.gcd a b : Int) : Int) : Rat) * (b : Rat) := by exact_mod_cast hx
    generalize ((a / (Int.gcd a b : Int) : Int) : Rat) = z at *
    grind
  rw [e]
  exact ⟨rfl, hn.symm⟩
theorem rat_add (x y : Rat) : x + y = ((x.num * y.den + y.num * x.den : Int) : Rat) / ((x.den * y.den : Int) : Rat) := by
  have h1 := rat_nd x
  have h2 := rat_nd y
  have hx : ((x.den : Nat) : Rat) ≠ 0 := by have := x.den_nz; simp; omega
  have hy : ((y.den : Nat) : Rat) ≠ 0 := by have := y.den_nz; simp; omega
  have e1 : ((x.num * y.den + y.num * x.den : Int) : Rat) = (x.num : Rat) * (y.den : Rat) + (y.num : Rat) * (x.den : Rat) := by push_cast; rfl
  have e2 : ((x.den * y.den : Int) : Rat) = (x.den : Rat) * (y.den : Rat) := by push_cast; rfl
  rw [e1, e2]
  generalize (x.num : Rat) = a at *
  generalize (y.num : Rat) = b at *
  generalize (x.den : Rat) = c at *
  generalize (y.den : Rat) = d at *
  subst h1; subst h2
  grind
theorem rat_mul (x y : Rat) : x * y = ((x.num * y.num : Int) : Rat) / ((x.den * y.den : Int) : Rat) := by
  have h1 := rat_nd x
  have h2 := rat_nd y
  have hx : ((x.den : Nat) : Rat) ≠ 0 := by have := x.den_nz; simp; omega
  have hy : ((y.den : Nat) : Rat) ≠ 0 := by have := y.den_nz; simp; omega
  have e1 : ((x.num * y.num : Int) : Rat) = (x.num : Rat) * (y.num : Rat) := by push_cast; rfl
  have e2 : ((x.den * y.den : Int) : Rat) = (x.den : Rat) * (y.den : Rat) := by push_cast; rfl
  rw [e1, e2]
  generalize (x.num : Rat) = a at *
  generalize (y.num : Rat) = b at *
  generalize (x.den : Rat) = c at *
  generalize (y.den : Rat) = d at *
  subst h1; subst h2
  grind
/-- not greater than B, above and below -/
def RB' (B : Nat) (q : Rat) : Prop := q.num.natAbs ≤ B ∧ q.den ≤ B
theorem rb_of {a b : Int} {B : Nat} (hb : 0 < b) (ha : a.natAbs ≤ B) (hb2 : b.natAbs ≤ B) : RB' B ((a : Rat) / (b : Rat)) := by
  obtain ⟨h1, h2⟩ := rat_of (a := a) hb
  have hg : 0 < Int.gcd a b := Int.gcd_pos_of_ne_zero_right _ (by omega)
  have bd : ∀ (z : Int), (Int.fdiv z (Int.gcd a b)).natAbs ≤ z.natAbs := fun z => by
    rw [Int.fdiv_eq_ediv_of_nonneg _ (by omega)]
    exact Int.natAbs_ediv_le_natAbs z _
  refine ⟨by rw [h1]; exact Nat.le_trans (bd a) ha, ?_⟩
  have := Nat.le_trans (bd b) hb2
  rw [← h2] at this
  simpa using this
theorem rb_mono {B C : Nat} {q : Rat} (h : RB' B q) (hc : B ≤ C) : RB' C q := ⟨Nat.le_trans h.1 hc, Nat.le_trans h.2 hc⟩
theorem rb_add {A B : Nat} {x y : Rat} (hx : RB' A x) (hy : RB' B y) : RB' (2 * (A * B)) (x + y) := by
  rw [rat_add]
  have hp : (0 : Int) < x.den * y.den := by
    have := x.den_pos
    have := y.den_pos
    exact Int.mul_pos (by omega) (by omega)
  refine rb_of hp ?_ ?_
  · have h1 : (x.num * y.den).natAbs ≤ A * B := by rw [Int.natAbs_mul]; exact Nat.mul_le_mul hx.1 (by simpa using hy.2)
    have h2 : (y.num * x.den).natAbs ≤ A * B := by rw [Int.natAbs_mul, Nat.mul_comm]; exact Nat.mul_le_mul (by simpa using hx.2) hy.1
    omega
  · have : ((x.den * y.den : Int)).natAbs ≤ A * B := by rw [Int.natAbs_mul]; exact Nat.mul_le_mul (by simpa using hx.2) (by simpa using hy.2)
    omega
theorem rb_mul {A B : Nat} {x y : Rat} (hx : RB' A x) (hy : RB' B y) : RB' (A * B) (x * y) := by
  rw [rat_mul]
  have hp : (0 : Int) < x.den * y.den := by
    have := x.den_pos
    have := y.den_pos
    exact Int.mul_pos (by omega) (by omega)
  refine rb_of hp ?_ ?_
  · rw [Int.natAbs_mul]; exact Nat.mul_le_mul hx.1 hy.1
  · rw [Int.natAbs_mul]; exact Nat.mul_le_mul (by simpa using hx.2) (by simpa using hy.2)
theorem rat_num0 {q : Rat} : q.num = 0 ↔ q = 0 := Rat.num_eq_zero
/-! ### products of boxes, kinds -/
abbrev Mono := List (Str × Int)
structure Kind where
  m : Mono
  p : Int
  b : Int
  deriving DecidableEq
instance : Emb Kind where
  toD := fun k => .tup [toD k.m, .int k.p, .int k.b]
  py := fun k => .tuple [py k.m, .int k.p, .int k.b]
  deg := deg Mono + 1
  pyOk := fun S k => by unfold toPy toPys toPys toPys toPys; rw [pyOk]; rfl
  np := fun _ _ h => nomatch h
  al := fun a b => by simp [PySem.W.alike, PySem.W.alikeAll, al]
  dep := fun a => by
    have h1 := dep a.m
    simp only [PyData.depth, PyData.depthAll]
    omega
  inj := fun a b h => by
    simp only [PyData.eqv, PyData.eqvAll, Bool.and_eq_true, beq_iff_eq] at h
    have h1 := inj _ _ h.1
    obtain ⟨_, _, _⟩ := a
    obtain ⟨_, _, _⟩ := b
    simp only [Kind.mk.injEq]
    exact ⟨h1, h.2.1, h.2.2.1⟩
  cl := fun n k => by unfold D.closed closedL closedL closedL closedL; rw [cl]; rfl
theorem toD_kind (k : Kind) : (toD k : D) = .tup [toD k.m, .int k.p, .int k.b] := rfl
instance : NkE Kind where
  nk := fun k => .tup [NkE.nk k.m, .num k.p, .num k.b]
  nkOk := fun k => by
    show keyN (.tup [toD k.m, .int k.p, .int k.b]) = _
    unfold keyN keyNs keyNs keyNs keyNs
    rw [NkE.nkOk]; unfold keyN; rfl
  nkInj := fun a b h => by
    simp only [NestedKey.tup.injEq, List.cons.injEq, NestedKey.num.injEq] at h
    have h1 := NkE.nkInj _ _ h.1
    obtain ⟨_, _, _⟩ := a
    obtain ⟨_, _, _⟩ := b
    simp only [Kind.mk.injEq]
    exact ⟨h1, h.2.1, h.2.2.1⟩
  kdeg := NkE.kdeg Mono + 1
  nkDep := fun a => by
    have h1 := NkE.nkDep a.m
    simp only [NestedKey.depth, NestedKey.depthAll]
    omega
instance : KeyE Mono where
  pk := false
  plain := fun h => nomatch h
  nest := fun _ a => nest_of (fun a => ⟨_, rfl⟩) (by decide) a
instance : KeyE Kind where
  pk := false
  plain := fun h => nomatch h
  nest := fun _ a => nest_of (fun a => ⟨_, rfl⟩) (by decide) a
instance : Sok (Str × Int) := ⟨.inl fun _ => rfl, by decide⟩
instance : Sok (Mono × Int) := ⟨.inl fun _ => rfl, by decide⟩
instance : Sok (Mono × Rat) := ⟨.inl fun _ => rfl, by decide⟩
instance : Sok (Kind × Rat) := ⟨.inl fun _ => rfl, by decide⟩
/-- kinds of unlike products of boxes -/
theorem ltE_kind {j k : Kind} (h : j.m ≠ k.m) : ltE j k = ltE j.m k.m := by
  unfold ltE
  show PySem.W.dataLt (.tuple (py j.m :: [.int j.p, .int j.b])) (.tuple (py k.m :: [.int k.p, .int k.b])) = _
  rw [PySem.W.dataLt_tuple, PySem.W.dataLt_cons (al _ _)]
  have : PyData.eqv (py j.m) (py k.m) = false := by
    cases e : PyData.eqv (py j.m) (py k.m) with
    | false => rfl
    | true => exact absurd (inj _ _ e) h
  rw [this]
  rfl
end DL

set_option Elab.async false
set_option linter.all false
set_option maxRecDepth 100000
set_option maxHeartbeats 4000000
set_option autoImplicit false
/-! Draws: the state, numbers, fractions. -/
namespace DL
open PySem L2
open Emb
local macro_rules | `(tactic| walk_at "1") => `(tactic| with_reducible first
  | refine s_seq ?_ | refine s_asg ?_ | refine s_ret ?_ | refine s_if ?_ | refine s_expr ?_ | refine s_next ?_ | refine s_brk ?_ | refine s_cont ?_ | refine s_for ?_ | refine s_while ?_
  | refine p_c ?_ | refine p_bin ?_ | refine p_as ?_ | refine p_cons ?_ | refine p_nil ?_ | refine p_un ?_ | refine p_call ?_ | refine p_if ?_ | refine p_own ?_
  | refine p_keep ?_ | refine p_tru ?_ | refine p_and ?_ | refine p_or ?_ | refine p_not ?_ | refine p_val ?_ | refine p_rand ?_ | refine p_ror ?_ | refine p_rnot ?_ | refine p_chain ?_ | refine p_bif ?_
  | refine o_add ?_ | refine o_sub ?_ | refine o_ltU ?_ | refine o_leU ?_ | refine o_gtU ?_ | refine o_geU ?_ | refine o_neg ?_ | refine o_eqI ?_ | refine o_neI ?_ | refine o_abs ?_ | refine o_tru ?_ | refine p_true ?_ | refine p_false ?_
  | refine o_lenT ?_ | refine o_lenL ?_
  | refine s_par ?_ | refine p_yes ?_ | refine p_lc ?_ | refine p_seq ?_ | refine s_gnil ?_ | refine s_gcons ?_ | refine s_gtux ?_ | refine p_onone ?_ | refine p_osome ?_)
local macro_rules | `(tactic| walk_at "2") => `(tactic| first
  | walk_at "1"
  | (with_reducible refine p_var2 ?_)
  | ((with_reducible refine s_name ?_ ?_); (· exact Nat.le_of_ble_eq_true rfl); dsimp only [List.set_cons_zero, List.set_cons_succ])
  | (with_reducible refine p_tup ?_) | ((with_reducible refine ⟨?_, ?_⟩); (· exact Nat.le_of_ble_eq_true rfl))
  | ((with_reducible refine p_ex2 (x := ?_) (y := ?_) ?_ ?_); rotate_left; rotate_left; (· rfl); refine ⟨?_, ?_, ?_⟩; (· exact Nat.le_of_ble_eq_true rfl); (· exact Nat.le_of_ble_eq_true rfl); dsimp only [List.set_cons_zero, List.set_cons_succ])
  | ((with_reducible refine p_isT ?_ ?_); (· rfl)) | ((with_reducible refine p_isF ?_ ?_); (· rfl))
  | ((with_reducible refine p_ex (x := ?_) ?_ ?_); rotate_left; (· rfl)))
local macro_rules | `(tactic| walk_at "3") => `(tactic| repeat (first | walk_at "2" | (with_reducible refine p_lst ?_)))
def stD (ns : List Int) (a : Int) : D := .dct [(.str "script", .lst (ns.map .int)), (.str "at", .int a), (.str "rest", .ptr 0)]
theorem stD_closed {n : Nat} (hn : 0 < n) (ns : List Int) (a : Int) : D.closed n (stD ns a) = true := by
  unfold stD D.closed closedK closedK closedK closedK D.closed
  rw [closed_ints' ns]
  simp
  exact hn
/-- the state of the draws: slots 0 and 1 of the store -/
structure Sta (c : Nat) (S : Sto) : Prop where
  ex : ∃ (ns rs : List Int) (a : Int), S[0]? = some (.lst (rs.map .int)) ∧ S[1]? = some (stD ns a) ∧ rs.length = ns.length ∧ 0 ≤ a ∧ a ≤ c
  sane : Sane S
/-- on to another store: the state goes on, all else stays -/
structure Go (c : Nat) (S S' : Sto) : Prop where
  sta : Sta c S'
  len : S'.length = S.length
  rest : ∀ k, 2 ≤ k → S'[k]? = S[k]?
theorem Sta.le {c c' : Nat} {S : Sto} (h : Sta c S) (hc : c ≤ c') : Sta c' S := by
  obtain ⟨ns, rs, a, h1, h2, h3, h4, h5⟩ := h.ex
  exact ⟨⟨ns, rs, a, h1, h2, h3, h4, by omega⟩, h.sane⟩
theorem Sta.len {c : Nat} {S : Sto} (h : Sta c S) : 2 ≤ S.length := by
  obtain ⟨ns, rs, a, h1, h2, _⟩ := h.ex
  have := (List.getElem?_eq_some_iff.mp h2).1
  omega
theorem Go.trans {c c' : Nat} {S S1 S2 : Sto} (h : Go c S S1) (g : Go c' S1 S2) : Go c' S S2 := ⟨g.sta, g.len.trans h.len, fun k hk => (g.rest k hk).trans (h.rest k hk)⟩
theorem Go.refl {c : Nat} {S : Sto} (h : Sta c S) : Go c S S := ⟨h, rfl, fun _ _ => rfl⟩
theorem Go.le {c c' : Nat} {S S' : Sto} (h : Go c S S') (hc : c ≤ c') : Go c' S S' := ⟨h.sta.le hc, h.len, h.rest⟩
/-- more is made behind -/
theorem Sta.app {c : Nat} {S : Sto} {u : D} (h : Sta c S) (hu : D.closed (S.length + 1) u = true) : Sta c (S ++ [u]) := by
  obtain ⟨ns, rs, a, h1, h2, h3, h4, h5⟩ := h.ex
  have l := h.len
  exact ⟨⟨ns, rs, a, by rw [List.getElem?_append_left (by omega)]; exact h1, by rw [List.getElem?_append_left (by omega)]; exact h2, h3, h4, h5⟩, sane_app h.sane hu⟩
/-- the mixing -/
theorem mixed_post {ns : List Int} {a many : Int} {S : Sto} {o4 : Option D} (hS : Sane S) (h0 : 0 ≤ a) (h1 : a < 2 ^ 60) (hm : 0 < many) {T : D → Sto → Prop} (hT : ∀ i, 0 ≤ i → i < many → T (.int i) S) :
    ((sSeq (sAsg (rIf (bVal (rBin gNe (rVar 3) (rKeep (rLst rNil)))) (rBin gIx (rVar 3) (rBin gMod (rVar 2) (rAs gLen (rCons (rVar 3) rNil)))) (rC (.int 0))) (gName 5))
    (sSeq (sAsg (rBin gMod (rBin gAdd (rBin gAdd (rBin gMul (rBin gMod (rVar 5) (rC (.int 2147483629))) (rC (.int 48271))) (rBin gMul (rBin gMul (rC (.int 69621)) (rVar 2)) (rVar 2))) (rC (.int 104729))) (rC (.int 2147483647))) (gName 6))
    (sSeq (sAsg (rBin gMod (rBin gMul (rVar 6) (rBin gAdd (rC (.int 16807)) (rBin gMul (rC (.int 2)) (rVar 2)))) (rC (.int 2147483629))) (gName 6))
    (sRet (rBin gMod (rBin gDiv (rBin gMod (rBin gMul (rVar 6) (rVar 6)) (rC (.int 1000000007))) (rC (.int 7))) (rVar 1)))))) [some (.ptr 1), some (.int many), some (.int a), some (.lst (ns.map .int)), o4, none, none] S).post NoS T NoS NoS := by
  have tail : ∀ cell : Int, ((sSeq (sAsg (rBin gMod (rBin gAdd (rBin gAdd (rBin gMul (rBin gMod (rVar 5) (rC (.int 2147483629))) (rC (.int 48271))) (rBin gMul (rBin gMul (rC (.int 69621)) (rVar 2)) (rVar 2))) (rC (.int 104729))) (rC (.int 2147483647))) (gName 6))
    (sSeq (sAsg (rBin gMod (rBin gMul (rVar 6) (rBin gAdd (rC (.int 16807)) (rBin gMul (rC (.int 2)) (rVar 2)))) (rC (.int 2147483629))) (gName 6))
    (sRet (rBin gMod (rBin gDiv (rBin gMod (rBin gMul (rVar 6) (rVar 6)) (rC (.int 1000000007))) (rC (.int 7))) (rVar 1))))) [some (.ptr 1), some (.int many), some (.int a), some (.lst (ns.map .int)), o4, some (.int cell), none] S).post NoS T NoS NoS := by
    intro cell
    repeat walk_at "2"
    refine o_mod (by decide) ?_
    repeat walk_at "2"
    refine o_mul (fits_r (by decide)) ?_
    repeat walk_at "2"
    refine o_mul (fits_l (by decide)) ?_
    repeat walk_at "2"
    refine o_mul (fits_r (by omega)) ?_
    repeat walk_at "2"
    refine o_mod (by decide) ?_
    generalize hx : (Int.fmod _ 2147483647 : Int) = x
    have x0 : 0 ≤ x ∧ x < 2147483647 := by
      rw [← hx, Int.fmod_eq_emod_of_nonneg _ (by decide)]
      exact ⟨Int.emod_nonneg _ (by decide), Int.emod_lt_of_pos _ (by decide)⟩
    repeat walk_at "2"
    refine o_mul (fits_l (by decide)) ?_
    repeat walk_at "2"
    refine o_mul (fits_l (by omega)) ?_
    repeat walk_at "2"
    refine o_mod (by decide) ?_
    generalize hy : (Int.fmod _ 2147483629 : Int) = y
    have y0 : 0 ≤ y ∧ y < 2147483629 := by
      rw [← hy, Int.fmod_eq_emod_of_nonneg _ (by decide)]
      exact ⟨Int.emod_nonneg _ (by decide), Int.emod_lt_of_pos _ (by decide)⟩
    repeat walk_at "2"
    refine o_mul (fits_l (by omega)) ?_
    repeat walk_at "2"
    refine o_mod (by decide) ?_
    repeat walk_at "2"
    refine o_div ⟨by decide, by decide⟩ ?_
    repeat walk_at "2"
    refine o_mod (by omega) ?_
    refine hT _ ?_ ?_
    · rw [Int.fmod_eq_emod_of_nonneg _ (by omega)]
      exact Int.emod_nonneg _ (by omega)
    · rw [Int.fmod_eq_emod_of_nonneg _ (by omega)]
      exact Int.emod_lt_of_pos _ hm
  repeat walk_at "2"
  with_reducible refine p_lst ?_
  repeat walk_at "2"
  refine o_neIs (ms := []) ?_
  repeat walk_at "2"
  refine ⟨fun h => ?_, fun h => ?_⟩
  · have h : ns ≠ [] := by simpa using h
    have hl : 0 < ns.length := List.length_pos_iff.mpr h
    repeat walk_at "2"
    refine o_mod (by rw [List.length_map]; omega) ?_
    rw [List.length_map]
    have e : ∃ v, atI (ns.map D.int) (Int.fmod a ns.length) = some (.int v) := by
      rw [Int.fmod_eq_emod_of_nonneg _ (by omega)]
      have g0 := Int.emod_nonneg a (show (ns.length : Int) ≠ 0 by omega)
      have g1 := Int.emod_lt_of_pos a (show (0 : Int) < ns.length by omega)
      generalize a % (ns.length : Int) = q at *
      have hq : q.toNat < ns.length := by omega
      refine ⟨ns[q.toNat], ?_⟩
      unfold atI ixN
      rw [List.length_map, if_pos g0, if_pos g1]
      show (ns.map D.int)[q.toNat]? = _
      rw [List.getElem?_map, List.getElem?_eq_getElem hq]
      rfl
    obtain ⟨v, ev⟩ := e
    refine o_ixL ev ?_
    refine s_name (Nat.le_of_ble_eq_true rfl) ?_
    exact tail v
  · refine p_c ?_
    refine s_name (Nat.le_of_ble_eq_true rfl) ?_
    exact tail 0
theorem put_at (ns : List Int) (a b : Int) : putU (stD ns a) (.str "at") (.int b) = some (stD ns b) := by
  unfold stD putU
  dsimp only
  rw [if_pos (show isKey (.str "at") = true from rfl)]
  show (if 3 < sizeLine then _ else _) = _
  rw [if_pos (by decide)]
  rfl
theorem sta_set {c : Nat} {S : Sto} {ns rs : List Int} {a : Int} (hS : Sane S) (h0 : S[0]? = some (.lst (rs.map .int))) (h1 : S[1]? = some (stD ns a)) (hl : rs.length = ns.length) (b : Int) (hb : 0 ≤ b) (hc : b ≤ c) (rs' : List Int) (hl' : rs'.length = rs.length) :
    Go c S ((S.set 1 (stD ns b)).set 0 (.lst (rs'.map .int))) ∧ Go c S (S.set 1 (stD ns b)) := by
  have l1 := (List.getElem?_eq_some_iff.mp h1).1
  have s1 : Sane (S.set 1 (stD ns b)) := sane_set hS (stD_closed (by omega) ns b)
  have s2 : Sane ((S.set 1 (stD ns b)).set 0 (.lst (rs'.map .int))) := sane_set s1 (by unfold D.closed; exact closed_ints' _)
  refine ⟨⟨⟨⟨ns, rs', b, ?_, ?_, by omega, hb, hc⟩, s2⟩, by rw [List.length_set, List.length_set], fun k hk => ?_⟩, ⟨⟨⟨ns, rs, b, ?_, ?_, hl, hb, hc⟩, s1⟩, by rw [List.length_set], fun k hk => ?_⟩⟩
  · rw [List.getElem?_set_self (by rw [List.length_set]; omega)]
  · rw [List.getElem?_set_ne (by decide), List.getElem?_set_self l1]
  · rw [List.getElem?_set_ne (by omega), List.getElem?_set_ne (by omega)]
  · rw [List.getElem?_set_ne (by decide)]; exact h0
  · rw [List.getElem?_set_self l1]
  · rw [List.getElem?_set_ne (by omega)]
/-- what was there ahead goes on -/
theorem go_take {c : Nat} {S S1 : Sto} (hS : Sane S) (h2 : 2 ≤ S.length) (h : Sta c S1) (hl : S.length ≤ S1.length) (hr : ∀ k, 2 ≤ k → k < S.length → S1[k]? = S[k]?) : Go c S (S1.take S.length) := by
  obtain ⟨ns, rs, a, e0, e1, q⟩ := h.ex
  have tk : ∀ k, k < S.length → (S1.take S.length)[k]? = S1[k]? := fun k hk => by rw [List.getElem?_take, if_pos hk]
  have ln : (S1.take S.length).length = S.length := by rw [List.length_take]; omega
  refine ⟨⟨⟨ns, rs, a, by rw [tk 0 (by omega)]; exact e0, by rw [tk 1 (by omega)]; exact e1, q⟩, ?_⟩, ln, fun k hk => ?_⟩
  · unfold Sane
    rw [ln]
    refine closedL_iff.mpr fun i x hx => ?_
    have hi : i < S.length := by
      have := (List.getElem?_eq_some_iff.mp hx).1
      omega
    rw [tk i hi] at hx
    rcases (by omega : i = 0 ∨ i = 1 ∨ 2 ≤ i) with rfl | rfl | h3
    · rw [e0] at hx
      cases hx
      unfold D.closed
      exact closed_ints' _
    · rw [e1] at hx
      cases hx
      exact stD_closed (by omega) ns a
    · rw [hr i h3 hi] at hx
      exact closedL_iff.mp hS i x hx
  · by_cases h3 : k < S.length
    · rw [tk k h3, hr k hk h3]
    · rw [List.getElem?_eq_none (by omega), List.getElem?_eq_none (by omega)]
theorem m_defG {n c : Nat} {b : RS} {ds : List D} {S : Sto} {Q : D → Sto → Prop} (h : (b (ds.map some ++ List.replicate (n - ds.length) none) S).post NoS (fun z S1 => D.closed S.length z = true ∧ Go c S (S1.take S.length) ∧ Q z (S1.take S.length)) NoS NoS) : (mDef n b ds S).post Q :=
  m_def (h.mono (fun _ _ z => z.elim) (fun z S1 ⟨e1, e2, e3⟩ => by
    have e4 : closedL S.length (S1.take S.length) = true := by
      have := e2.sta.sane
      unfold Sane at this
      rwa [e2.len] at this
    rw [e1, e4]
    exact ⟨rfl, e3⟩) (fun _ _ z => z) (fun _ _ z => z))
def small (n : Nat) (d : D) : Prop := ∃ i : Int, d = .int i ∧ i.natAbs ≤ n
/-! ### products of boxes that are drawn -/
/-- the boxes that are drawn -/
def fiveB : List Str := ["gull", "x", "arc", "zz", "b"]
def nice (x : Str) : Bool := (decide (x.length ≤ 8) && x.cps.toList.all fun c => decide (c < 128)) && decide (x ∈ fiveB)
def degT (m : Mono) : Int := (m.map (·.2)).sum
structure MonG (t : Nat) (m : Mono) : Prop where
  nd : ND m
  nc : ∀ p ∈ m, nice p.1 = true ∧ 1 ≤ p.2
  dg : degT m = t
theorem repl_deg (m : Mono) (k : Str) (v : Int) (hn : ND m) {w : Int} (h : getT m k = some w) : degT (replT m k v) = degT m + v - w := by
  induction m with
  | nil => cases h
  | cons p r ih =>
    obtain ⟨k', v'⟩ := p
    unfold ND at hn
    rw [List.map_cons, List.nodup_cons] at hn
    rw [getT_cons] at h
    unfold replT
    by_cases e : k' = k
    · subst e
      rw [if_pos rfl] at h
      cases h
      rw [if_pos rfl]
      have : replT r k' v = r := by
        have hk := hn.1
        clear ih hn
        induction r with
        | nil => rfl
        | cons q s ih =>
          obtain ⟨k2, v2⟩ := q
          rw [List.map_cons, List.mem_cons, not_or] at hk
          unfold replT
          rw [if_neg (Ne.symm hk.1), ih hk.2]
      rw [this]
      unfold degT
      simp only [List.map_cons, List.sum_cons]
      omega
    · rw [if_neg e] at h ⊢
      have := ih hn.2 h
      unfold degT at this ⊢
      simp only [List.map_cons, List.sum_cons]
      omega
theorem put_deg (m : Mono) (k : Str) (hn : ND m) : degT (putT m k ((getT m k).getD 0 + 1)) = degT m + 1 := by
  unfold putT
  cases e : getT m k with
  | some w =>
    rw [if_pos (show (some w).isSome = true from rfl), repl_deg m k _ hn e]
    show degT m + (w + 1) - w = _
    omega
  | none =>
    rw [if_neg (show ¬ (none : Option Int).isSome = true by decide)]
    unfold degT
    rw [List.map_append, List.sum_append]
    simp
theorem deg_pos {m : Mono} (h : ∀ p ∈ m, nice p.1 = true ∧ 1 ≤ p.2) : (m.length : Int) ≤ degT m ∧ ∀ p ∈ m, p.2 ≤ degT m := by
  induction m with
  | nil => exact ⟨Int.le_refl _, fun _ z => nomatch z⟩
  | cons p r ih =>
    obtain ⟨h1, h2⟩ := ih fun q hq => h q (List.mem_cons_of_mem _ hq)
    have h3 := (h p List.mem_cons_self).2
    unfold degT at *
    simp only [List.map_cons, List.sum_cons, List.length_cons]
    refine ⟨by omega, fun q hq => ?_⟩
    rcases List.mem_cons.mp hq with rfl | hq
    · omega
    · have := h2 q hq; omega
theorem deg_perm {m n : Mono} (h : m.Perm n) : degT m = degT n := by
  unfold degT
  have := h.map (·.2)
  generalize m.map (·.2) = a at this
  generalize n.map (·.2) = b at this
  induction this with
  | nil => rfl
  | cons x _ ih => simp only [List.sum_cons, ih]
  | swap x y l => simp only [List.sum_cons]; omega
  | trans _ _ h1 h2 => exact h1.trans h2
theorem five_nice {d : D} (h : d ∈ ([.str "gull", .str "x", .str "arc", .str "zz", .str "b"] : List D)) : ∃ x, d = .str x ∧ nice x = true := by
  simp only [List.mem_cons, List.not_mem_nil, or_false] at h
  rcases h with rfl | rfl | rfl | rfl | rfl <;> exact ⟨_, rfl, by decide +kernel⟩
/-- a product that is drawn: in order, of degree up to n -/
structure MonO (n : Nat) (m : Mono) : Prop where
  inc : Inc m
  nc : ∀ p ∈ m, nice p.1 = true ∧ 1 ≤ p.2
  dg : degT m ≤ n
end DL

set_option Elab.async false
set_option linter.all false
set_option maxRecDepth 100000
set_option maxHeartbeats 4000000
set_option autoImplicit false
/-! Items of tuples. -/
namespace DL
open PySem L2
open Emb
theorem o_ix0 {S : Sto} {a : D} {r : List D} {Q : D → Sto → Prop} (h : Q a S) : (Res.lift (gIx S (.tup (a :: r)) (.int 0)) S).post Q := o_ixT atI_0 h
theorem o_ix1 {S : Sto} {a b : D} {r : List D} {Q : D → Sto → Prop} (h : Q b S) : (Res.lift (gIx S (.tup (a :: b :: r)) (.int 1)) S).post Q := o_ixT atI_1 h
theorem o_ix2 {S : Sto} {a b c : D} {r : List D} {Q : D → Sto → Prop} (h : Q c S) : (Res.lift (gIx S (.tup (a :: b :: c :: r)) (.int 2)) S).post Q := o_ixT atI_2 h
theorem o_ix0L {S : Sto} {a : D} {r : List D} {Q : D → Sto → Prop} (h : Q a S) : (Res.lift (gIx S (.lst (a :: r)) (.int 0)) S).post Q := o_ixL atI_0 h
theorem o_ix1L {S : Sto} {a b : D} {r : List D} {Q : D → Sto → Prop} (h : Q b S) : (Res.lift (gIx S (.lst (a :: b :: r)) (.int 1)) S).post Q := o_ixL atI_1 h
theorem o_ix2L {S : Sto} {a b c : D} {r : List D} {Q : D → Sto → Prop} (h : Q c S) : (Res.lift (gIx S (.lst (a :: b :: c :: r)) (.int 2)) S).post Q := o_ixL atI_2 h
theorem s_gtupl {u : List D → Sl → Sto → Res Sl} {ds : List D} {δ : Sl} {S : Sto} {QS : Sl → Sto → Prop} (h : (u ds δ S).post QS) : (gTup u (.tup ds) δ S).post QS := s_gtup rfl h
end DL

set_option Elab.async false
set_option linter.all false
set_option maxRecDepth 100000
set_option maxHeartbeats 4000000
set_option autoImplicit false
/-! Polys over fractions: worth, slope, and that a poly whose slopes are not below nought does not fall (by a rule of eleven spots, exact to degree ten). -/
namespace DL
namespace PR
def ev : List Rat → Rat → Rat
  | [], _ => 0
  | c :: r, z => c + z * ev r z
def dev : List Rat → Rat → Rat
  | [], _ => 0
  | _ :: r, z => ev r z + z * dev r z
def padd : List Rat → List Rat → List Rat
  | [], q => q
  | a :: p, [] => a :: p
  | a :: p, b :: q => (a + b) :: padd p q
theorem ev_padd : ∀ (p q : List Rat) (z : Rat), ev (padd p q) z = ev p z + ev q z
  | [], q, z => by show ev q z = 0 + ev q z; grind
  | a :: p, [], z => by show ev (a :: p) z = ev (a :: p) z + 0; grind
  | a :: p, b :: q, z => by
    show (a + b) + z * ev (padd p q) z = (a + z * ev p z) + (b + z * ev q z)
    rw [ev_padd p q z]
    grind
theorem dev_padd : ∀ (p q : List Rat) (z : Rat), dev (padd p q) z = dev p z + dev q z
  | [], q, z => by show dev q z = 0 + dev q z; grind
  | a :: p, [], z => by show dev (a :: p) z = dev (a :: p) z + 0; grind
  | a :: p, b :: q, z => by
    show ev (padd p q) z + z * dev (padd p q) z = (ev p z + z * dev p z) + (ev q z + z * dev q z)
    rw [ev_padd p q z, dev_padd p q z]
    grind
theorem len_padd : ∀ (p q : List Rat), (padd p q).length = max p.length q.length
  | [], q => by show q.length = max 0 q.length; omega
  | a :: p, [] => by show (a :: p).length = max (a :: p).length 0; omega
  | a :: p, b :: q => by
    show (padd p q).length + 1 = max (p.length + 1) (q.length + 1)
    rw [len_padd p q]
    omega
def sc (k : Rat) (p : List Rat) : List Rat := p.map (k * ·)
theorem ev_sc (k : Rat) : ∀ (p : List Rat) (z : Rat), ev (sc k p) z = k * ev p z
  | [], z => by show (0 : Rat) = k * 0; grind
  | c :: p, z => by
    show k * c + z * ev (sc k p) z = k * (c + z * ev p z)
    rw [ev_sc k p z]
    grind
theorem dev_sc (k : Rat) : ∀ (p : List Rat) (z : Rat), dev (sc k p) z = k * dev p z
  | [], z => by show (0 : Rat) = k * 0; grind
  | c :: p, z => by
    show ev (sc k p) z + z * dev (sc k p) z = k * (ev p z + z * dev p z)
    rw [ev_sc k p z, dev_sc k p z]
    grind
def muA (x h : Rat) (g : List Rat) : List Rat := padd (sc x g) (0 :: sc h g)
theorem ev_muA (x h : Rat) (g : List Rat) (t : Rat) : ev (muA x h g) t = (x + h * t) * ev g t := by
  unfold muA
  rw [ev_padd, ev_sc]
  show x * ev g t + (0 + t * ev (sc h g) t) = _
  rw [ev_sc]
  grind
theorem dev_muA (x h : Rat) (g : List Rat) (t : Rat) : dev (muA x h g) t = h * ev g t + (x + h * t) * dev g t := by
  unfold muA
  rw [dev_padd, dev_sc]
  show x * dev g t + (ev (sc h g) t + t * dev (sc h g) t) = _
  rw [ev_sc, dev_sc]
  grind
def comp (x h : Rat) : List Rat → List Rat
  | [] => []
  | c :: r => padd [c] (muA x h (comp x h r))
theorem ev_comp (x h : Rat) : ∀ (q : List Rat) (t : Rat), ev (comp x h q) t = ev q (x + h * t)
  | [], t => rfl
  | c :: r, t => by
    show ev (padd [c] (muA x h (comp x h r))) t = c + (x + h * t) * ev r (x + h * t)
    rw [ev_padd, ev_muA, ev_comp x h r t]
    show (c + t * 0) + _ = _
    grind
theorem dev_comp (x h : Rat) : ∀ (q : List Rat) (t : Rat), dev (comp x h q) t = h * dev q (x + h * t)
  | [], t => by show (0 : Rat) = h * 0; grind
  | c :: r, t => by
    show dev (padd [c] (muA x h (comp x h r))) t = h * (ev r (x + h * t) + (x + h * t) * dev r (x + h * t))
    rw [dev_padd, dev_muA, ev_comp x h r t, dev_comp x h r t]
    show (0 + t * 0) + _ = _
    grind
theorem len_comp (x h : Rat) : ∀ (q : List Rat), (comp x h q).length = q.length
  | [] => rfl
  | c :: r => by
    have ih := len_comp x h r
    show (padd [c] (padd (sc x (comp x h r)) (0 :: sc h (comp x h r)))).length = r.length + 1
    rw [len_padd, len_padd]
    unfold sc
    simp only [List.length_cons, List.length_map, List.length_nil, ih]
    omega
/-! the rule -/
def GQ : List (Rat × Rat) := [(168169213282398866 / 1236139035720079491, 1 / 2), (969342318633008 / 7323922561465125, 127 / 200), (969342318633008 / 7323922561465125, 73 / 200), (96332274558929 / 832639417359750, 19 / 25), (96332274558929 / 832639417359750, 6 / 25), (727144065748 / 7740060087375, 173 / 200), (727144065748 / 7740060087375, 27 / 200), (74728734837177500 / 1169880916020452559, 189 / 200), (74728734837177500 / 1169880916020452559, 11 / 200), (19187244481168 / 734937110956125, 99 / 100), (19187244481168 / 734937110956125, 1 / 100)]
def qs (f : Rat → Rat) : List (Rat × Rat) → Rat
  | [] => 0
  | p :: r => p.1 * f p.2 + qs f r
def mo (j : Nat) : Rat := qs (fun t => t ^ j) GQ
theorem mo_ok : ∀ j : Fin 11, mo j.val = 1 / ((j.val + 1 : Nat) : Rat) := by decide +kernel
theorem gq_ok : ∀ p ∈ GQ, 0 ≤ p.1 ∧ 0 ≤ p.2 ∧ p.2 ≤ 1 := by decide +kernel
theorem qs_lin (f g : Rat → Rat) (c : Rat) : ∀ l, qs (fun t => c * f t + g t) l = c * qs f l + qs g l
  | [] => by show (0 : Rat) = c * 0 + 0; grind
  | p :: r => by
    show p.1 * (c * f p.2 + g p.2) + qs _ r = c * (p.1 * f p.2 + qs f r) + (p.1 * g p.2 + qs g r)
    rw [qs_lin f g c r]
    grind
theorem qs_ext {f g : Rat → Rat} (h : ∀ t, f t = g t) : qs f = qs g := by rw [show f = g from funext h]
theorem qs_nonneg {f : Rat → Rat} : ∀ {l : List (Rat × Rat)}, (∀ p ∈ l, 0 ≤ p.1 ∧ 0 ≤ f p.2) → 0 ≤ qs f l
  | [], _ => Rat.le_refl
  | p :: r, h => by
    have h1 := h p List.mem_cons_self
    have h2 := qs_nonneg (l := r) fun q hq => h q (List.mem_cons_of_mem _ hq)
    exact Rat.add_nonneg (Rat.mul_nonneg h1.1 h1.2) h2
def msum : Nat → List Rat → Rat
  | _, [] => 0
  | j, c :: r => c * mo j + msum (j + 1) r
theorem qs_ev : ∀ (c : List Rat) (j : Nat), qs (fun t => t ^ j * ev c t) GQ = msum j c
  | [], j => by
    rw [qs_ext (g := fun t => 0 * (0 : Rat) + 0) fun t => by show t ^ j * 0 = _; grind, qs_lin]
    show 0 * _ + qs (fun _ => 0) GQ = 0
    have : ∀ l, qs (fun _ => 0) l = 0 := fun l => by
      induction l with
      | nil => rfl
      | cons p r ih => show p.1 * 0 + qs _ r = 0; rw [ih]; grind
    rw [this]
    grind
  | c :: r, j => by
    rw [qs_ext (g := fun t => c * t ^ j + t ^ (j + 1) * ev r t) fun t => by
      show t ^ j * (c + t * ev r t) = _
      rw [Rat.pow_succ]
      grind, qs_lin, qs_ev r (j + 1)]
    rfl
def dI : Nat → List Rat → List Rat
  | _, [] => []
  | k, c :: r => (k : Rat) * c :: dI (k + 1) r
theorem ev_dI : ∀ (p : List Rat) (k : Nat) (t : Rat), ev (dI k p) t = (k : Rat) * ev p t + t * dev p t
  | [], k, t => by show (0 : Rat) = (k : Rat) * 0 + t * 0; grind
  | c :: r, k, t => by
    show (k : Rat) * c + t * ev (dI (k + 1) r) t = (k : Rat) * (c + t * ev r t) + t * (ev r t + t * dev r t)
    rw [ev_dI r (k + 1) t]
    have : ((k + 1 : Nat) : Rat) = (k : Rat) + 1 := by push_cast; rfl
    rw [this]
    grind
theorem dev_dI (c : Rat) (r : List Rat) (t : Rat) : dev (c :: r) t = ev (dI 1 r) t := by
  rw [ev_dI]
  show ev r t + t * dev r t = ((1 : Nat) : Rat) * ev r t + t * dev r t
  have : ((1 : Nat) : Rat) = 1 := rfl
  rw [this]
  grind
theorem msum_dI : ∀ (r : List Rat) (j : Nat), j + r.length ≤ 11 → msum j (dI (j + 1) r) = ev r 1
  | [], j, _ => rfl
  | c :: r, j, h => by
    have h : j + (r.length + 1) ≤ 11 := h
    have hj : j < 11 := by omega
    show ((j + 1 : Nat) : Rat) * c * mo j + msum (j + 1) (dI (j + 1 + 1) r) = c + 1 * ev r 1
    have hr : j + 1 + r.length ≤ 11 := by omega
    rw [msum_dI r (j + 1) hr, show mo j = _ from mo_ok ⟨j, hj⟩]
    have h0 : ((j + 1 : Nat) : Rat) ≠ 0 := by
      intro z
      have z : ((j + 1 : Nat) : Rat) = ((0 : Nat) : Rat) := z
      have := Rat.natCast_inj.mp z
      omega
    show ((j + 1 : Nat) : Rat) * c * (1 / ((j + 1 : Nat) : Rat)) + ev r 1 = c + 1 * ev r 1
    generalize ((j + 1 : Nat) : Rat) = n at h0
    grind
/-- the rule is exact -/
theorem rule_exact (g : List Rat) (h : g.length ≤ 12) : ev g 1 - ev g 0 = qs (dev g) GQ := by
  cases g with
  | nil =>
    show (0 : Rat) - 0 = qs (fun t => dev [] t) GQ
    rw [qs_ext (g := fun t => t ^ 0 * ev [] t) fun t => by show (0 : Rat) = t ^ 0 * 0; grind, qs_ev]
    show (0 : Rat) - 0 = 0
    grind
  | cons c r =>
    rw [List.length_cons] at h
    rw [qs_ext (g := fun t => t ^ 0 * ev (dI 1 r) t) fun t => by rw [dev_dI]; show _ = t ^ 0 * _; grind, qs_ev, msum_dI r 0 (by omega)]
    show (c + 1 * ev r 1) - (c + 0 * ev r 0) = ev r 1
    grind
/-- a poly whose slopes are not below nought does not fall -/
theorem not_falls {q : List Rat} (hl : q.length ≤ 12) {x y : Rat} (hxy : x ≤ y) (h : ∀ z, x ≤ z → z ≤ y → 0 ≤ dev q z) : ev q x ≤ ev q y := by
  have e := rule_exact (comp x (y - x) q) (by rw [len_comp]; exact hl)
  have hh : 0 ≤ y - x := by grind
  have n : 0 ≤ qs (dev (comp x (y - x) q)) GQ := qs_nonneg fun p hp => by
    obtain ⟨g1, g2, g3⟩ := gq_ok p hp
    refine ⟨g1, ?_⟩
    rw [dev_comp]
    have m1 : 0 ≤ (y - x) * p.2 := Rat.mul_nonneg hh g2
    have m2 : 0 ≤ (y - x) * (1 - p.2) := Rat.mul_nonneg hh (by grind)
    exact Rat.mul_nonneg hh (h _ (by grind) (by grind))
  rw [ev_comp, ev_comp] at e
  have e1 : x + (y - x) * 1 = y := by grind
  have e0 : x + (y - x) * 0 = x := by grind
  rw [e1, e0] at e
  grind
end PR
end DL

set_option Elab.async false
set_option linter.all false
set_option maxRecDepth 100000
set_option maxHeartbeats 4000000
set_option autoImplicit false
/-! Where a poly of whole numbers comes to nought: by the spots of its slopes. -/
namespace DL
namespace PR
def evI : List Int → Int → Int
  | [], _ => 0
  | c :: r, z => c + z * evI r z
def cs (p : List Int) : List Rat := p.map fun c : Int => ((c : Int) : Rat)
theorem ev_cs : ∀ (p : List Int) (z : Int), ev (cs p) (z : Rat) = ((evI p z : Int) : Rat)
  | [], z => rfl
  | c :: r, z => by
    show (c : Rat) + (z : Rat) * ev (cs r) (z : Rat) = ((c + z * evI r z : Int) : Rat)
    rw [ev_cs r z]
    push_cast
    rfl
def dZ : Nat → List Int → List Int
  | _, [] => []
  | k, c :: r => (k : Int) * c :: dZ (k + 1) r
def slope (p : List Int) : List Int := dZ 1 p.tail
theorem cs_dZ : ∀ (p : List Int) (k : Nat), cs (dZ k p) = dI k (cs p)
  | [], k => rfl
  | c :: r, k => by
    show (((k : Int) * c : Int) : Rat) :: cs (dZ (k + 1) r) = (k : Rat) * (c : Rat) :: dI (k + 1) (cs r)
    rw [cs_dZ r (k + 1)]
    congr 1
    push_cast
    rfl
theorem dev_cs (p : List Int) (t : Rat) : dev (cs p) t = ev (cs (slope p)) t := by
  cases p with
  | nil => rfl
  | cons c r =>
    show dev ((c : Rat) :: cs r) t = ev (cs (dZ 1 r)) t
    rw [dev_dI, cs_dZ]
theorem len_dZ : ∀ (p : List Int) (k : Nat), (dZ k p).length = p.length
  | [], k => rfl
  | c :: r, k => by show (dZ (k + 1) r).length + 1 = r.length + 1; rw [len_dZ r (k + 1)]
theorem len_slope (p : List Int) : (slope p).length = p.length - 1 := by unfold slope; rw [len_dZ, List.length_tail]
theorem len_cs (p : List Int) : (cs p).length = p.length := List.length_map _
/-! one sign -/
def WS (q : List Rat) (a b : Rat) : Prop := (∀ z, a ≤ z → z ≤ b → 0 ≤ ev q z) ∨ ∀ z, a ≤ z → z ≤ b → ev q z ≤ 0
def Mon (q : List Rat) (a b : Rat) : Prop := (∀ x y, a ≤ x → x ≤ y → y ≤ b → ev q x ≤ ev q y) ∨ ∀ x y, a ≤ x → x ≤ y → y ≤ b → ev q y ≤ ev q x
theorem mon_of {p : List Int} (hl : p.length ≤ 12) {a b : Rat} (h : WS (cs (slope p)) a b) : Mon (cs p) a b := by
  have hl2 : (cs p).length ≤ 12 := by rw [len_cs]; exact hl
  rcases h with h | h
  · exact .inl fun x y h1 h2 h3 => not_falls hl2 h2 fun z g1 g2 => by
      rw [dev_cs]
      exact h z (by grind) (by grind)
  · refine .inr fun x y h1 h2 h3 => ?_
    have := not_falls (q := sc (-1) (cs p)) (by unfold sc; rw [List.length_map]; exact hl2) h2 fun z g1 g2 => by
      rw [dev_sc, dev_cs]
      have := h z (by grind) (by grind)
      grind
    rw [ev_sc, ev_sc] at this
    grind
/-! few roots -/
def lead : List Rat → Rat
  | [] => 0
  | [c] => c
  | _ :: d :: r => lead (d :: r)
theorem lead_padd : ∀ (t s : List Rat), s.length < t.length → lead (padd t s) = lead t
  | [], s, h => absurd h (Nat.not_lt_zero _)
  | a :: t, [], _ => rfl
  | [a], b :: s, h => by rw [List.length_cons, List.length_cons, List.length_nil] at h; omega
  | a :: a2 :: t, b :: s, h => by
    have h2 : s.length < (a2 :: t).length := by simp only [List.length_cons] at h ⊢; omega
    have ih := lead_padd (a2 :: t) s h2
    have hl : (padd (a2 :: t) s).length = (a2 :: t).length := by rw [len_padd]; omega
    show lead ((a + b) :: padd (a2 :: t) s) = lead (a2 :: t)
    rw [← ih]
    cases q : padd (a2 :: t) s with
    | nil => rw [q] at hl; cases hl
    | cons u v => rfl
def quo (r : Rat) : List Rat → List Rat
  | [] => []
  | _ :: t => padd t (sc r (quo r t))
theorem quo_len (r : Rat) : ∀ p, (quo r p).length = p.length - 1
  | [] => rfl
  | c :: t => by
    have ih := quo_len r t
    show (padd t (sc r (quo r t))).length = t.length
    rw [len_padd]
    unfold sc
    rw [List.length_map, ih]
    omega
theorem quo_ev (r : Rat) : ∀ (p : List Rat) (z : Rat), ev p z - ev p r = (z - r) * ev (quo r p) z
  | [], z => by show (0 : Rat) - 0 = (z - r) * 0; grind
  | c :: t, z => by
    have ih := quo_ev r t z
    show (c + z * ev t z) - (c + r * ev t r) = (z - r) * ev (padd t (sc r (quo r t))) z
    rw [ev_padd, ev_sc]
    grind
theorem few_roots : ∀ (rs : List Rat) (p : List Rat), lead p ≠ 0 → rs.Nodup → (∀ z ∈ rs, ev p z = 0) → rs.length < p.length
  | [], p, hl, _, _ => by
    cases p with
    | nil => exact absurd rfl hl
    | cons c t => exact Nat.succ_pos _
  | r :: rs, p, hl, hn, hr => by
    obtain ⟨n1, n2⟩ := List.nodup_cons.mp hn
    have r0 := hr r List.mem_cons_self
    cases p with
    | nil => exact absurd rfl hl
    | cons c t =>
      cases t with
      | nil =>
        have e : c + r * 0 = 0 := r0
        have e2 : c ≠ 0 := hl
        grind
      | cons d t =>
        have hq : lead (quo r (c :: d :: t)) ≠ 0 := by
          have : lead (quo r (c :: d :: t)) = lead (d :: t) := lead_padd (d :: t) _ (by unfold sc; rw [List.length_map, quo_len, List.length_cons]; omega)
          rw [this]
          exact hl
        have ih := few_roots rs (quo r (c :: d :: t)) hq n2 fun z hz => by
          have e := quo_ev r (c :: d :: t) z
          rw [hr z (List.mem_cons_of_mem _ hz), r0] at e
          have hzr : z - r ≠ 0 := fun x => n1 (by
            have : z = r := by grind
            rw [← this]; exact hz)
          have e : (z - r) * ev (quo r (c :: d :: t)) z = 0 := by grind
          rcases Rat.mul_eq_zero.mp e with h | h
          · exact absurd h hzr
          · exact h
        rw [quo_len] at ih
        simp only [List.length_cons] at ih ⊢
        omega
theorem not_flat {p : List Rat} (hl : lead p ≠ 0) (h12 : p.length ≤ 12) {x y : Rat} (hxy : x < y) (h : ∀ z, x ≤ z → z ≤ y → ev p z = 0) : False := by
  have hd : 0 < (y - x) / 12 := by grind
  have key := few_roots ((List.range 12).map fun (k : Nat) => x + (k : Rat) * ((y - x) / 12)) p hl (by
    unfold List.Nodup
    refine List.pairwise_map.mpr (List.pairwise_lt_range.imp fun {a b} hab => ?_)
    intro e
    have e2 : ((a : Nat) : Rat) * ((y - x) / 12) = ((b : Nat) : Rat) * ((y - x) / 12) := by grind
    have e3 : (((a : Nat) : Rat) - ((b : Nat) : Rat)) * ((y - x) / 12) = 0 := by grind
    rcases Rat.mul_eq_zero.mp e3 with q | q
    · have : ((a : Nat) : Rat) = ((b : Nat) : Rat) := by grind
      have := Rat.natCast_inj.mp this
      omega
    · grind) (fun z hz => by
    obtain ⟨k, hk, rfl⟩ := List.mem_map.mp hz
    have hk := List.mem_range.mp hk
    have k0 : (0 : Rat) ≤ ((k : Nat) : Rat) := by exact_mod_cast Nat.zero_le k
    have k1 : ((k : Nat) : Rat) ≤ 12 := by
      have : ((k : Nat) : Rat) ≤ ((12 : Nat) : Rat) := by exact_mod_cast (show k ≤ 12 by omega)
      exact this
    have m1 : 0 ≤ ((k : Nat) : Rat) * ((y - x) / 12) := Rat.mul_nonneg k0 (by grind)
    have m2 : 0 ≤ (12 - ((k : Nat) : Rat)) * ((y - x) / 12) := Rat.mul_nonneg (by grind) (by grind)
    exact h _ (by grind) (by grind))
  rw [List.length_map, List.length_range] at key
  omega
end PR
end DL

set_option Elab.async false
set_option linter.all false
set_option maxRecDepth 100000
set_option maxHeartbeats 4000000
set_option autoImplicit false
/-! The spots of a poly tell its whole roots. -/
namespace DL
namespace PR
theorem castle {a b : Int} (h : a ≤ b) : ((a : Int) : Rat) ≤ ((b : Int) : Rat) := by exact_mod_cast h
theorem castlt {a b : Int} (h : a < b) : ((a : Int) : Rat) < ((b : Int) : Rat) := by exact_mod_cast h
def Good (P : List Int) (spots : List Int) (far : Int) : Prop := ∀ a b : Int, -far ≤ a → a < b → b ≤ far → (∀ s ∈ spots, ¬ (a ≤ s ∧ s < b)) → WS (cs P) (a : Rat) (b : Rat)
def pts (spots : List Int) (far : Int) : List Int := (0 - far) :: far :: spots.flatMap fun s => [s, s + 1]
theorem mem_pts {spots : List Int} {far x : Int} : x ∈ pts spots far ↔ x = 0 - far ∨ x = far ∨ ∃ s ∈ spots, x = s ∨ x = s + 1 := by
  unfold pts
  simp only [List.mem_cons, List.mem_flatMap, List.not_mem_nil, or_false]
structure Step (P spots : List Int) (far : Int) (spots' : List Int) : Prop where
  keep : ∀ s ∈ spots, s ∈ spots'
  pairs : ∀ low high, low ∈ pts spots far → high ∈ pts spots far → low < high → (∀ x ∈ pts spots far, ¬ (low < x ∧ x < high)) →
    (evI P low ≠ 0 → evI P high ≠ 0 → ¬ (evI P low < 0 ↔ evI P high < 0) → ∃ c ∈ spots', low ≤ c ∧ c < high ∧ (evI P c < 0 ↔ evI P low < 0) ∧ ¬ (evI P (c + 1) < 0 ↔ evI P low < 0))
theorem max_below : ∀ {l : List Int} {a : Int}, (∃ x ∈ l, x ≤ a) → ∃ m ∈ l, m ≤ a ∧ ∀ x ∈ l, x ≤ a → x ≤ m
  | [], a, ⟨x, hx, _⟩ => nomatch hx
  | y :: l, a, ⟨x, hx, hxa⟩ => by
    by_cases h : ∃ x ∈ l, x ≤ a
    · obtain ⟨m, m1, m2, m3⟩ := max_below h
      by_cases hy : y ≤ a ∧ m < y
      · refine ⟨y, List.mem_cons_self, hy.1, fun z hz hza => ?_⟩
        rcases List.mem_cons.mp hz with rfl | hz
        · exact Int.le_refl _
        · have := m3 z hz hza; omega
      · refine ⟨m, List.mem_cons_of_mem _ m1, m2, fun z hz hza => ?_⟩
        rcases List.mem_cons.mp hz with rfl | hz
        · omega
        · exact m3 z hz hza
    · have hxy : x = y := by
        rcases List.mem_cons.mp hx with e | hx
        · exact e
        · exact absurd ⟨x, hx, hxa⟩ h
      subst hxy
      refine ⟨x, List.mem_cons_self, hxa, fun z hz hza => ?_⟩
      rcases List.mem_cons.mp hz with rfl | hz
      · exact Int.le_refl _
      · exact absurd ⟨z, hz, hza⟩ h
theorem min_above {l : List Int} {a : Int} (h : ∃ x ∈ l, a ≤ x) : ∃ m ∈ l, a ≤ m ∧ ∀ x ∈ l, a ≤ x → m ≤ x := by
  obtain ⟨x, hx, hxa⟩ := h
  obtain ⟨m, m1, m2, m3⟩ := max_below (l := l.map fun y => -y) (a := -a) ⟨-x, List.mem_map.mpr ⟨x, hx, rfl⟩, by omega⟩
  obtain ⟨y, hy, rfl⟩ := List.mem_map.mp m1
  exact ⟨y, hy, by omega, fun z hz hza => by have := m3 (-z) (List.mem_map.mpr ⟨z, hz, rfl⟩) (by omega); omega⟩
/-- the spots of a poly: what stands around any stretch without them -/
theorem around {spots : List Int} {far a b : Int} (h1 : -far ≤ a) (h2 : a < b) (h3 : b ≤ far) (hs : ∀ s ∈ spots, ¬ (a ≤ s ∧ s < b)) :
    ∃ low high, low ∈ pts spots far ∧ high ∈ pts spots far ∧ low ≤ a ∧ b ≤ high ∧ -far ≤ low ∧ high ≤ far ∧ (∀ x ∈ pts spots far, ¬ (low < x ∧ x < high)) ∧ ∀ s ∈ spots, ¬ (low ≤ s ∧ s < high) := by
  obtain ⟨low, l1, l2, l3⟩ := max_below (l := pts spots far) (a := a) ⟨0 - far, mem_pts.mpr (.inl rfl), by omega⟩
  obtain ⟨high, g1, g2, g3⟩ := min_above (l := pts spots far) (a := b) ⟨far, mem_pts.mpr (.inr (.inl rfl)), h3⟩
  have lf : 0 - far ≤ low := l3 _ (mem_pts.mpr (.inl rfl)) (by omega)
  have hf : high ≤ far := g3 _ (mem_pts.mpr (.inr (.inl rfl))) h3
  have none : ∀ x ∈ pts spots far, ¬ (low < x ∧ x < high) := fun x hx ⟨q1, q2⟩ => by
    have a1 : ¬ x ≤ a := fun z => by have := l3 x hx z; omega
    have a2 : ¬ b ≤ x := fun z => by have := g3 x hx z; omega
    rcases mem_pts.mp hx with e | e | ⟨s, hs', e | e⟩
    · omega
    · omega
    · exact hs s hs' ⟨by omega, by omega⟩
    · exact hs s hs' ⟨by omega, by omega⟩
  refine ⟨low, high, l1, g1, l2, g2, by omega, hf, none, fun s hs' ⟨q1, q2⟩ => ?_⟩
  have p1 := none s (mem_pts.mpr (.inr (.inr ⟨s, hs', .inl rfl⟩)))
  have p2 := none (s + 1) (mem_pts.mpr (.inr (.inr ⟨s, hs', .inr rfl⟩)))
  have := hs s hs'
  omega
theorem neg_cast {P : List Int} {z : Int} : ev (cs P) (z : Rat) < 0 ↔ evI P z < 0 := by
  rw [ev_cs]
  constructor
  · intro h; exact_mod_cast h
  · intro h; exact_mod_cast h
theorem nought_cast {P : List Int} {z : Int} (h : evI P z = 0) : ev (cs P) (z : Rat) = 0 := by rw [ev_cs, h]; rfl
/-- one poly further -/
theorem good_step {P spots spots' : List Int} {far : Int} (hl : P.length ≤ 12) (hg : Good (slope P) spots far) (st : Step P spots far spots') : Good P spots' far := by
  intro a b h1 h2 h3 hs
  obtain ⟨low, high, l1, g1, l2, g2, lf, hf, none, free⟩ := around h1 h2 h3 (fun s hs' => hs s (st.keep s hs'))
  have mn := mon_of hl (hg low high lf (by omega) hf free)
  have la := castle l2
  have bh := castle g2
  have lh := castlt (show low < high by omega)
  have ab := castlt h2
  by_cases zl : evI P low = 0
  · have e := nought_cast zl
    rcases mn with mn | mn
    · exact .inl fun z q1 q2 => by have := mn (low : Rat) z (by grind) (by grind) (by grind); grind
    · exact .inr fun z q1 q2 => by have := mn (low : Rat) z (by grind) (by grind) (by grind); grind
  by_cases zh : evI P high = 0
  · have e := nought_cast zh
    rcases mn with mn | mn
    · exact .inr fun z q1 q2 => by have := mn z (high : Rat) (by grind) (by grind) (by grind); grind
    · exact .inl fun z q1 q2 => by have := mn z (high : Rat) (by grind) (by grind) (by grind); grind
  by_cases sg : evI P low < 0 ↔ evI P high < 0
  · by_cases nl : evI P low < 0
    · have e1 := neg_cast.mpr nl
      have e2 := neg_cast.mpr (sg.mp nl)
      rcases mn with mn | mn
      · exact .inr fun z q1 q2 => by have := mn z (high : Rat) (by grind) (by grind) (by grind); grind
      · exact .inr fun z q1 q2 => by have := mn (low : Rat) z (by grind) (by grind) (by grind); grind
    · have e1 : ¬ ev (cs P) (low : Rat) < 0 := fun q => nl (neg_cast.mp q)
      have e2 : ¬ ev (cs P) (high : Rat) < 0 := fun q => nl (sg.mpr (neg_cast.mp q))
      rcases mn with mn | mn
      · exact .inl fun z q1 q2 => by have := mn (low : Rat) z (by grind) (by grind) (by grind); grind
      · exact .inl fun z q1 q2 => by have := mn z (high : Rat) (by grind) (by grind) (by grind); grind
  · obtain ⟨c, hc, c1, c2, c3, c4⟩ := st.pairs low high l1 g1 (by omega) none zl zh sg
    have nc := hs c hc
    have lc := castle c1
    have ch : ((c + 1 : Int) : Rat) ≤ (high : Rat) := castle (by omega)
    have lc1 : (low : Rat) ≤ ((c + 1 : Int) : Rat) := castle (by omega)
    have cch : ((c : Int) : Rat) ≤ (high : Rat) := castle (by omega)
    have cc1 : ((c : Int) : Rat) ≤ ((c + 1 : Int) : Rat) := castle (by omega)
    have side : b ≤ c ∨ c + 1 ≤ a := by omega
    by_cases nl : evI P low < 0
    · have e1 := neg_cast.mpr nl
      have e3 := neg_cast.mpr (c3.mpr nl)
      have e4 : ¬ ev (cs P) ((c + 1 : Int) : Rat) < 0 := fun q => c4 ⟨fun _ => nl, fun _ => neg_cast.mp q⟩
      rcases mn with mn | mn
      · rcases side with sd | sd
        · have sd := castle sd
          exact .inr fun z q1 q2 => by have := mn z (c : Rat) (by grind) (by grind) (by grind); grind
        · have sd := castle sd
          exact .inl fun z q1 q2 => by have := mn ((c + 1 : Int) : Rat) z (by grind) (by grind) (by grind); grind
      · have := mn (c : Rat) ((c + 1 : Int) : Rat) (by grind) (by grind) (by grind)
        grind
    · have e1 : ¬ ev (cs P) (low : Rat) < 0 := fun q => nl (neg_cast.mp q)
      have e3 : ¬ ev (cs P) (c : Rat) < 0 := fun q => nl (c3.mp (neg_cast.mp q))
      have e4 : ev (cs P) ((c + 1 : Int) : Rat) < 0 := by
        by_cases q : evI P (c + 1) < 0
        · exact neg_cast.mpr q
        · exact absurd ⟨fun x => absurd x q, fun x => absurd x nl⟩ c4
      rcases mn with mn | mn
      · have := mn (c : Rat) ((c + 1 : Int) : Rat) (by grind) (by grind) (by grind)
        grind
      · rcases side with sd | sd
        · have sd := castle sd
          exact .inl fun z q1 q2 => by have := mn z (c : Rat) (by grind) (by grind) (by grind); grind
        · have sd := castle sd
          exact .inr fun z q1 q2 => by have := mn ((c + 1 : Int) : Rat) z (by grind) (by grind) (by grind); grind
/-- and its whole roots stand by the new spots -/
theorem root_step {P spots spots' : List Int} {far : Int} (hl : P.length ≤ 12) (hz : lead (cs P) ≠ 0) (hg : Good (slope P) spots far) (st : Step P spots far spots') {r : Int} (hr : evI P r = 0) (r1 : -far < r) (r2 : r < far) : r ∈ spots' ∨ r - 1 ∈ spots' := by
  by_cases hs : r ∈ spots ∨ r - 1 ∈ spots
  · rcases hs with h | h
    · exact .inl (st.keep _ h)
    · exact .inr (st.keep _ h)
  have free0 : ∀ s ∈ spots, ¬ (r - 1 ≤ s ∧ s < r + 1) := fun s hs' q => hs (by
    rcases (show s = r ∨ s = r - 1 by omega) with e | e
    · exact .inl (e ▸ hs')
    · exact .inr (e ▸ hs'))
  obtain ⟨low, high, l1, g1, l2, g2, lf, hf, none, free⟩ := around (spots := spots) (far := far) (a := r - 1) (b := r + 1) (by omega) (by omega) (by omega) free0
  have mn := mon_of hl (hg low high lf (by omega) hf free)
  have l12 : (cs P).length ≤ 12 := by rw [len_cs]; exact hl
  have er := nought_cast hr
  have lr := castlt (show low < r by omega)
  have rh := castlt (show r < high by omega)
  have flat : ∀ x y : Int, low ≤ x → x < y → y ≤ high → evI P x = 0 → evI P y = 0 → False := fun x y a1 a2 a3 a4 a5 => by
    have ex := nought_cast a4
    have ey := nought_cast a5
    have b1 := castle a1
    have b3 := castle a3
    refine not_flat hz l12 (castlt a2) fun z q1 q2 => ?_
    rcases mn with mn | mn
    · have := mn (x : Rat) z (by grind) (by grind) (by grind)
      have := mn z (y : Rat) (by grind) (by grind) (by grind)
      grind
    · have := mn (x : Rat) z (by grind) (by grind) (by grind)
      have := mn z (y : Rat) (by grind) (by grind) (by grind)
      grind
  by_cases zl : evI P low = 0
  · exact (flat low r (Int.le_refl _) (by omega) (by omega) zl hr).elim
  by_cases zh : evI P high = 0
  · exact (flat r high (by omega) (by omega) (Int.le_refl _) hr zh).elim
  have e1 : ev (cs P) (low : Rat) ≠ 0 := by rw [ev_cs]; intro q; exact zl (by exact_mod_cast q)
  have e2 : ev (cs P) (high : Rat) ≠ 0 := by rw [ev_cs]; intro q; exact zh (by exact_mod_cast q)
  have sg : ¬ (evI P low < 0 ↔ evI P high < 0) := fun q => by
    have q : ev (cs P) (low : Rat) < 0 ↔ ev (cs P) (high : Rat) < 0 := ⟨fun x => neg_cast.mpr (q.mp (neg_cast.mp x)), fun x => neg_cast.mpr (q.mpr (neg_cast.mp x))⟩
    rcases mn with mn | mn
    · have m1 := mn (low : Rat) (r : Rat) (by grind) (by grind) (by grind)
      have m2 := mn (r : Rat) (high : Rat) (by grind) (by grind) (by grind)
      grind
    · have m1 := mn (low : Rat) (r : Rat) (by grind) (by grind) (by grind)
      have m2 := mn (r : Rat) (high : Rat) (by grind) (by grind) (by grind)
      grind
  obtain ⟨c, hc, c1, c2, c3, c4⟩ := st.pairs low high l1 g1 (by omega) none zl zh sg
  have lc := castle c1
  have ch : ((c + 1 : Int) : Rat) ≤ (high : Rat) := castle (by omega)
  have lc1 : (low : Rat) ≤ ((c + 1 : Int) : Rat) := castle (by omega)
  have cch : ((c : Int) : Rat) ≤ (high : Rat) := castle (by omega)
  have cc1 : ((c : Int) : Rat) ≤ ((c + 1 : Int) : Rat) := castle (by omega)
  by_cases e : r = c
  · exact .inl (e ▸ hc)
  by_cases e' : r = c + 1
  · exact .inr (by rw [show r - 1 = c by omega]; exact hc)
  exfalso
  have q3 : ev (cs P) (c : Rat) < 0 ↔ ev (cs P) (low : Rat) < 0 := ⟨fun x => neg_cast.mpr (c3.mp (neg_cast.mp x)), fun x => neg_cast.mpr (c3.mpr (neg_cast.mp x))⟩
  have q4 : ¬ (ev (cs P) ((c + 1 : Int) : Rat) < 0 ↔ ev (cs P) (low : Rat) < 0) := fun q => c4 ⟨fun x => neg_cast.mp (q.mp (neg_cast.mpr x)), fun x => neg_cast.mp (q.mpr (neg_cast.mpr x))⟩
  rcases (show r < c ∨ c + 1 < r by omega) with side | side
  · have sd := castlt side
    have nz : evI P c = 0 → False := fun q => flat r c (by omega) side (by omega) hr q
    have nz' : ev (cs P) (c : Rat) ≠ 0 := by rw [ev_cs]; intro q; exact nz (by exact_mod_cast q)
    rcases mn with mn | mn
    · have m1 := mn (low : Rat) (r : Rat) (by grind) (by grind) (by grind)
      have m2 := mn (r : Rat) (c : Rat) (by grind) (by grind) (by grind)
      grind
    · have m1 := mn (low : Rat) (r : Rat) (by grind) (by grind) (by grind)
      have m2 := mn (r : Rat) (c : Rat) (by grind) (by grind) (by grind)
      grind
  · have sd := castlt side
    have nz : evI P (c + 1) = 0 → False := fun q => flat (c + 1) r (by omega) side (by omega) q hr
    have nz' : ev (cs P) ((c + 1 : Int) : Rat) ≠ 0 := by rw [ev_cs]; intro q; exact nz (by exact_mod_cast q)
    rcases mn with mn | mn
    · have m1 := mn ((c + 1 : Int) : Rat) (r : Rat) (by grind) (by grind) (by grind)
      have m2 := mn (low : Rat) ((c + 1 : Int) : Rat) (by grind) (by grind) (by grind)
      grind
    · have m1 := mn ((c + 1 : Int) : Rat) (r : Rat) (by grind) (by grind) (by grind)
      have m2 := mn (low : Rat) ((c + 1 : Int) : Rat) (by grind) (by grind) (by grind)
      grind
end PR
end DL

set_option Elab.async false
set_option linter.all false
set_option maxRecDepth 100000
set_option maxHeartbeats 4000000
set_option autoImplicit false
/-! The row of spots; polys put together of whole roots, and taken apart. -/
namespace DL
namespace PR
theorem lead_dI : ∀ (t : List Rat) (k : Nat), 1 ≤ k → 0 < lead t → 0 < lead (dI k t)
  | [], _, _, h => h
  | [c], k, hk, h => by
    have h : 0 < c := h
    have k0 : (0 : Rat) < ((k : Nat) : Rat) := by exact_mod_cast hk
    show 0 < (k : Rat) * c
    exact Rat.mul_pos k0 h
  | c :: d :: r, k, hk, h => by
    have ih := lead_dI (d :: r) (k + 1) (by omega) h
    show 0 < lead ((k : Rat) * c :: (((k + 1 : Nat) : Rat) * d :: dI (k + 1 + 1) r))
    exact ih
theorem lead_slope {P : List Int} (h2 : 2 ≤ P.length) (h : 0 < lead (cs P)) : 0 < lead (cs (slope P)) := by
  rcases P with _ | ⟨c, _ | ⟨d, r⟩⟩
  · simp at h2
  · simp at h2
  · show 0 < lead (cs (dZ 1 (d :: r)))
    rw [cs_dZ]
    exact lead_dI _ 1 (Nat.le_refl _) h
inductive Spots (far : Int) : List Int → List Int → Prop
  | line {a0 a1 : Int} : 0 < a1 → Spots far [a0, a1] [(0 - a0) / a1]
  | step {P s s' : List Int} : 3 ≤ P.length → Spots far (slope P) s → Step P s far s' → Spots far P s'
theorem line_ok {a0 a1 : Int} (h : 0 < a1) (far : Int) : Good [a0, a1] [(0 - a0) / a1] far ∧ ∀ r, evI [a0, a1] r = 0 → r ∈ [(0 - a0) / a1] ∨ r - 1 ∈ [(0 - a0) / a1] := by
  constructor
  · intro a b h1 h2 h3 hs
    have hs := hs _ (List.mem_singleton_self _)
    have d1 := Int.mul_ediv_self_le (x := 0 - a0) (k := a1) (by omega)
    have d2 := Int.lt_mul_ediv_self_add (x := 0 - a0) (k := a1) h
    generalize (0 - a0) / a1 = s at hs d1 d2
    have a1p : (0 : Rat) < (a1 : Rat) := by exact_mod_cast h
    have d1' : (a1 : Rat) * (s : Rat) ≤ - (a0 : Rat) := by
      have : a1 * s ≤ -a0 := by omega
      exact_mod_cast this
    have d2' : - (a0 : Rat) < (a1 : Rat) * (s : Rat) + (a1 : Rat) := by
      have : -a0 < a1 * s + a1 := by omega
      exact_mod_cast this
    have e : ∀ z : Rat, ev (cs [a0, a1]) z = (a0 : Rat) + z * (a1 : Rat) := fun z => by
      show (a0 : Rat) + z * ((a1 : Rat) + z * 0) = _
      grind
    rcases (show s + 1 ≤ a ∨ b ≤ s by omega) with q | q
    · have q := castle q
      have q2 : ((s + 1 : Int) : Rat) = (s : Rat) + 1 := by push_cast; rfl
      rw [q2] at q
      refine .inl fun z z1 z2 => ?_
      rw [e]
      have := Rat.mul_nonneg (show (0 : Rat) ≤ z - ((s : Rat) + 1) by grind) (Rat.le_of_lt a1p)
      grind
    · have q := castle q
      refine .inr fun z z1 z2 => ?_
      rw [e]
      have := Rat.mul_nonneg (show (0 : Rat) ≤ (s : Rat) - z by grind) (Rat.le_of_lt a1p)
      grind
  · intro r hr
    have hr : a0 + r * (a1 + r * 0) = 0 := hr
    left
    have e : 0 - a0 = r * a1 := by rw [Int.mul_zero, Int.add_zero] at hr; omega
    rw [e, Int.mul_ediv_cancel _ (by omega)]
    exact List.mem_singleton_self _
theorem spots_ok {far : Int} {P s : List Int} (h : Spots far P s) : P.length ≤ 12 → 0 < lead (cs P) → Good P s far ∧ ∀ r, evI P r = 0 → -far < r → r < far → r ∈ s ∨ r - 1 ∈ s := by
  induction h with
  | line h => exact fun _ _ => ⟨(line_ok h far).1, fun r hr _ _ => (line_ok h far).2 r hr⟩
  | @step P s s' h3 _ st ih =>
    intro h12 hl
    obtain ⟨g, _⟩ := ih (by rw [len_slope]; omega) (lead_slope (by omega) hl)
    exact ⟨good_step h12 g st, fun r hr r1 r2 => root_step h12 (by grind) g st hr r1 r2⟩
/-! a poly's numbers are told by its worths -/
theorem uniq : ∀ (p q : List Int) (N : Int), p.length = q.length → (∀ z, N ≤ z → evI p z = evI q z) → p = q
  | [], [], _, _, _ => rfl
  | [], _ :: _, _, h, _ => by simp at h
  | _ :: _, [], _, h, _ => by simp at h
  | c :: p, d :: q, N, hl, h => by
    have cd : c = d := by
      have h0 := h (N.natAbs + (c - d).natAbs + 1) (by omega)
      have h0 : c + (N.natAbs + (c - d).natAbs + 1 : Int) * evI p (N.natAbs + (c - d).natAbs + 1) = d + (N.natAbs + (c - d).natAbs + 1 : Int) * evI q (N.natAbs + (c - d).natAbs + 1) := h0
      generalize evI p (N.natAbs + (c - d).natAbs + 1) = u at h0
      generalize evI q (N.natAbs + (c - d).natAbs + 1) = v at h0
      have h1 : c - d = (N.natAbs + (c - d).natAbs + 1 : Int) * (v - u) := by rw [Int.mul_sub]; omega
      by_cases e : v - u = 0
      · rw [e, Int.mul_zero] at h1; omega
      · exfalso
        have h2 := congrArg Int.natAbs h1
        rw [Int.natAbs_mul] at h2
        have h3 : 1 ≤ (v - u).natAbs := by omega
        have h4 : (N.natAbs + (c - d).natAbs + 1 : Int).natAbs = N.natAbs + (c - d).natAbs + 1 := by omega
        rw [h4] at h2
        have h5 := Nat.le_mul_of_pos_right (N.natAbs + (c - d).natAbs + 1) h3
        omega
    subst cd
    congr 1
    refine uniq p q (max N 1) (by simpa using hl) fun z hz => ?_
    have h0 : c + z * evI p z = c + z * evI q z := h z (by omega)
    have h1 : z * evI p z = z * evI q z := by omega
    exact Int.eq_of_mul_eq_mul_left (by omega) h1
/-! z less a root, times a poly -/
def ml : Int → Int → List Int → List Int
  | prev, _, [] => [prev]
  | prev, r, c :: q => (prev - r * c) :: ml c r q
def mulLin (r : Int) (q : List Int) : List Int := ml 0 r q
def hq (r : Int) : List Int → List Int
  | [] => []
  | c :: t => (c + r * evI t r) :: hq r t
theorem ev_ml : ∀ (q : List Int) (prev r z : Int), evI (ml prev r q) z = prev + (z - r) * evI q z
  | [], prev, r, z => by show prev + z * 0 = prev + (z - r) * 0; grind
  | c :: q, prev, r, z => by
    show (prev - r * c) + z * evI (ml c r q) z = prev + (z - r) * (c + z * evI q z)
    rw [ev_ml q c r z]
    grind
theorem hq_ml : ∀ (q : List Int) (prev r : Int), hq r (ml prev r q) = prev :: q
  | [], prev, r => by show [prev + r * 0] = [prev]; grind
  | c :: q, prev, r => by
    show ((prev - r * c) + r * evI (ml c r q) r) :: hq r (ml c r q) = _
    rw [hq_ml q c r, ev_ml]
    congr 1
    grind
theorem hq_mulLin (q : List Int) (r : Int) : hq r (mulLin r q).tail = q := by
  cases q with
  | nil => rfl
  | cons c q => exact hq_ml q c r
theorem len_ml : ∀ (q : List Int) (prev r : Int), (ml prev r q).length = q.length + 1
  | [], _, _ => rfl
  | c :: q, prev, r => by show (ml c r q).length + 1 = _; rw [len_ml q c r]; rfl
theorem ev_mulLin (r : Int) (q : List Int) (z : Int) : evI (mulLin r q) z = (z - r) * evI q z := by unfold mulLin; rw [ev_ml]; omega
/-- z less each root, times a poly -/
def can (K : List Int) (R : List Int) : List Int := R.foldr mulLin K
def prodR : List Int → Int → Int
  | [], _ => 1
  | r :: R, z => (z - r) * prodR R z
theorem ev_can (K : List Int) : ∀ (R : List Int) (z : Int), evI (can K R) z = prodR R z * evI K z
  | [], z => by show evI K z = 1 * evI K z; omega
  | r :: R, z => by
    show evI (mulLin r (can K R)) z = (z - r) * prodR R z * evI K z
    rw [ev_mulLin, ev_can K R z, Int.mul_assoc]
theorem len_can (K : List Int) : ∀ R : List Int, (can K R).length = K.length + R.length
  | [] => rfl
  | r :: R => by show (ml 0 r (can K R)).length = _; rw [len_ml, len_can K R]; rfl
theorem prodR_erase : ∀ {R : List Int} {r : Int}, r ∈ R → ∀ z, prodR R z = (z - r) * prodR (R.erase r) z
  | s :: R, r, h, z => by
    by_cases e : s = r
    · subst e; rw [List.erase_cons_head]; rfl
    · have hr : r ∈ R := by
        rcases List.mem_cons.mp h with x | x
        · exact absurd x.symm e
        · exact x
      rw [List.erase_cons_tail (by simpa using e)]
      show (z - s) * prodR R z = (z - r) * ((z - s) * prodR (R.erase r) z)
      rw [prodR_erase hr z]
      grind
theorem can_out {K R : List Int} {r : Int} (h : r ∈ R) : can K R = mulLin r (can K (R.erase r)) := by
  refine uniq _ _ 0 ?_ fun z _ => ?_
  · unfold mulLin
    rw [len_ml, len_can, len_can, List.length_erase_of_mem h]
    have := List.length_pos_of_mem h
    omega
  · rw [ev_mulLin, ev_can, ev_can, prodR_erase h, Int.mul_assoc]
theorem prodR_nz : ∀ {R : List Int} {z : Int}, z ∉ R → prodR R z ≠ 0
  | [], z, _ => by show (1 : Int) ≠ 0; decide
  | r :: R, z, h => by
    rw [List.mem_cons, not_or] at h
    exact Int.mul_ne_zero (by omega) (prodR_nz h.2)
theorem prodR_z {R : List Int} {z : Int} (h : z ∈ R) : prodR R z = 0 := by rw [prodR_erase h, Int.sub_self, Int.zero_mul]
theorem can_root {K R : List Int} (hK : ∀ z, evI K z ≠ 0) {z : Int} : evI (can K R) z = 0 ↔ z ∈ R := by
  rw [ev_can]
  constructor
  · intro h
    rcases Int.mul_eq_zero.mp h with q | q
    · by_cases m : z ∈ R
      · exact m
      · exact absurd q (prodR_nz m)
    · exact absurd q (hK z)
  · intro h; rw [prodR_z h, Int.zero_mul]
/-- a whole root is no greater than some number of the poly -/
theorem root_le : ∀ {p : List Int} {r : Int}, evI p r = 0 → (∃ c ∈ p, c ≠ 0) → r = 0 ∨ ∃ c ∈ p, r.natAbs ≤ c.natAbs
  | [], _, _, ⟨c, hc, _⟩ => nomatch hc
  | c :: t, r, h, ⟨d, hd, hd0⟩ => by
    have h : c + r * evI t r = 0 := h
    by_cases c0 : c = 0
    · subst c0
      rw [Int.zero_add] at h
      rcases Int.mul_eq_zero.mp h with q | q
      · exact .inl q
      · have hd' : d ∈ t := by
          rcases List.mem_cons.mp hd with e | e
          · exact absurd e hd0
          · exact e
        rcases root_le q ⟨d, hd', hd0⟩ with x | ⟨e, e1, e2⟩
        · exact .inl x
        · exact .inr ⟨e, List.mem_cons_of_mem _ e1, e2⟩
    · refine .inr ⟨c, List.mem_cons_self, ?_⟩
      have e : c = r * (- evI t r) := by rw [Int.mul_neg]; omega
      have h2 := congrArg Int.natAbs e
      rw [Int.natAbs_mul] at h2
      have h3 : 1 ≤ (- evI t r).natAbs := by
        rcases Nat.eq_zero_or_pos (- evI t r).natAbs with z | z
        · rw [z, Nat.mul_zero] at h2; omega
        · exact z
      rw [h2]
      exact Nat.le_mul_of_pos_right _ h3
end PR
end DL

set_option Elab.async false
set_option linter.all false
set_option maxRecDepth 100000
set_option maxHeartbeats 4000000
set_option autoImplicit false
/-! k30: the program's poly at a number, slopes, a poly divided. -/
namespace DL
open PySem L2
open Emb
local macro_rules | `(tactic| walk_at "1") => `(tactic| with_reducible first
  | refine s_seq ?_ | refine s_asg ?_ | refine s_ret ?_ | refine s_if ?_ | refine s_expr ?_ | refine s_next ?_ | refine s_brk ?_ | refine s_cont ?_ | refine s_for ?_ | refine s_while ?_
  | refine p_c ?_ | refine p_bin ?_ | refine p_as ?_ | refine p_cons ?_ | refine p_nil ?_ | refine p_un ?_ | refine p_call ?_ | refine p_if ?_ | refine p_own ?_
  | refine p_keep ?_ | refine p_tru ?_ | refine p_and ?_ | refine p_or ?_ | refine p_not ?_ | refine p_val ?_ | refine p_rand ?_ | refine p_ror ?_ | refine p_rnot ?_ | refine p_chain ?_ | refine p_bif ?_
  | refine o_add ?_ | refine o_sub ?_ | refine o_ltU ?_ | refine o_leU ?_ | refine o_gtU ?_ | refine o_geU ?_ | refine o_neg ?_ | refine o_eqI ?_ | refine o_neI ?_ | refine o_abs ?_ | refine o_tru ?_ | refine p_true ?_ | refine p_false ?_
  | refine o_lenT ?_ | refine o_lenL ?_ | refine o_ix0 ?_ | refine o_ix1 ?_ | refine o_ix2 ?_ | refine o_ix0L ?_ | refine o_ix1L ?_ | refine o_ix2L ?_
  | refine s_par ?_ | refine p_yes ?_ | refine p_seq ?_ | refine s_gnil ?_ | refine s_gcons ?_ | refine s_gtux ?_ | refine s_gtupl ?_ | refine p_onone ?_ | refine p_osome ?_ | refine p_get2 ?_ | refine s_putU ?_ | refine p_sortIt ?_)
local macro_rules | `(tactic| walk_at "2") => `(tactic| first
  | walk_at "1"
  | (with_reducible refine p_var2 ?_)
  | ((with_reducible refine s_name ?_ ?_); (· exact Nat.le_of_ble_eq_true rfl); dsimp only [List.set_cons_zero, List.set_cons_succ])
  | (with_reducible refine p_tup ?_) | (with_reducible refine p_lst ?_) | ((with_reducible refine ⟨?_, ?_⟩); (· exact Nat.le_of_ble_eq_true rfl))
  | ((with_reducible refine p_ex2 (x := ?_) (y := ?_) ?_ ?_); rotate_left; rotate_left; (· rfl); refine ⟨?_, ?_, ?_⟩; (· exact Nat.le_of_ble_eq_true rfl); (· exact Nat.le_of_ble_eq_true rfl); dsimp only [List.set_cons_zero, List.set_cons_succ])
  | ((with_reducible refine p_isT ?_ ?_); (· rfl)) | ((with_reducible refine p_isF ?_ ?_); (· rfl))
  | ((with_reducible refine p_ex (x := ?_) ?_ ?_); rotate_left; (· rfl)))
local macro_rules | `(tactic| walk_at "3") => `(tactic| repeat walk_at "2")
theorem maxI_mem {ns : List Int} (h : ns ≠ []) : ∃ m, maxI ns = some m ∧ m ∈ ns := by
  cases ns with
  | nil => exact absurd rfl h
  | cons i r =>
    refine ⟨r.foldl max i, rfl, ?_⟩
    rcases (foldl_max r i).1 with h | h
    · rw [h]; exact List.mem_cons_self
    · exact List.mem_cons_of_mem _ h
theorem o_maxL {S : Sto} {ns : List Int} {m : Int} {Q : D → Sto → Prop} (e : maxI ns = some m) (h : Q (.int m) S) : (Res.lift (gMax S [.lst (ns.map .int)]) S).post Q := p_lift (by unfold gMax deref; dsimp only; rw [asInts_map]; dsimp only [Option.bind_some]; rw [e]; rfl) h
theorem o_catI {S : Sto} {a b : List Int} {Q : D → Sto → Prop} (hl : a.length + b.length ≤ sizeLine) (h : Q (.lst ((a ++ b).map .int)) S) : (Res.lift (gCat S (.lst (a.map .int)) (.lst (b.map .int))) S).post Q := p_lift (by
  show (if (a.map D.int).length + (b.map D.int).length ≤ sizeLine then some (D.lst (a.map .int ++ b.map .int)) else none) = _
  rw [List.length_map, List.length_map, if_pos hl, List.map_append]) h
theorem p_append2 {δ : Sl} {S : Sto} {r : Nat} {x e : RE} {ys : List D} {Q : D → Sto → Prop} (hx : x δ S = .ok (.ptr r) S) (hr : S[r]? = some (.lst ys)) (h : (e δ S).post fun y S2 => ∃ xs, S2[r]? = some (.lst xs) ∧ xs.length < sizeLine ∧ Q .non (S2.set r (.lst (xs ++ [y])))) : (rMeth "list" mAppend x (rCons e rNil) δ S).post Q := by
  refine p_meth (Res.post.of_eq hx ?_)
  refine ⟨?_, ?_⟩
  · unfold isTy
    rw [deref_at hr]
    rfl
  · refine p_cons (h.mono fun y S2 ⟨xs, e4, e3, q2⟩ => p_nil ?_)
    refine ⟨.non, S2.set r (.lst (xs ++ [y])), ?_, q2⟩
    unfold mAppend
    dsimp only
    rw [e4]
    dsimp only
    rw [if_pos e3]
theorem s_freeze2 {i k : Nat} {δ : Sl} {S : Sto} {ds : List D} {N B C : Sl → Sto → Prop} {T : D → Sto → Prop} (e : δ[i]? = some (some (.ptr k))) (hk : S[k]? = some (.lst ds)) (h : N (δ.set i (some (.lst ds))) (S.set k .non)) : (sFreeze i δ S).post N T B C := by
  unfold sFreeze
  rw [e]
  dsimp only
  rw [hk]
  exact h
theorem p_cutP {a : RE} {l h : RO} {δ : Sl} {S : Sto} {Q : D → Sto → Prop} (q : (a δ S).post fun x S1 => (l δ S1).post fun i S2 => (h δ S2).post fun j S3 => ∃ z, deref S3 x = .lst z ∧ Q (.lst (cutD z i j)) S3) : (rCut a l h δ S).post Q :=
  p_bind (q.mono fun x S1 q => p_bind (q.mono fun i S2 q => p_bind (q.mono fun j S3 ⟨z, e, q'⟩ => by
    rw [e]
    exact q')))
theorem p_rev {a : RE} {δ : Sl} {S : Sto} {Q : D → Sto → Prop} (h : (a δ S).post fun x S1 => ∃ z, x = .tup z ∧ Q (.tup z.reverse) S1) : (rStep a oNone oNone (oSome (rUn gNeg (rC (.int 1)))) δ S).post Q := p_bind (h.mono fun x S1 ⟨z, e, q⟩ => by
  subst e
  show Res.post (if (none : Option Int) = none ∧ (none : Option Int) = none ∧ (-1 : Int) = -1 then Res.ok (D.tup z.reverse) S1 else .stuck) Q
  rw [if_pos ⟨rfl, rfl, rfl⟩]
  exact q)
namespace PR
/-! ### sizes -/
def BND : Nat := 2 ^ 900
def Bd (P : List Int) : Prop := P.length ≤ 12 ∧ ∀ c ∈ P, c.natAbs < 2 ^ 900
theorem ev_bnd : ∀ (P : List Int) (z : Int), (∀ c ∈ P, c.natAbs < 2 ^ 900) → z.natAbs < 2 ^ 900 → (evI P z).natAbs + 1 ≤ 2 ^ (1000 * P.length)
  | [], z, _, _ => by show (0 : Int).natAbs + 1 ≤ 2 ^ (1000 * 0); decide
  | c :: t, z, h, hz => by
    have ih := ev_bnd t z (fun x hx => h x (List.mem_cons_of_mem _ hx)) hz
    have hc := h c List.mem_cons_self
    show (c + z * evI t z).natAbs + 1 ≤ 2 ^ (1000 * (t.length + 1))
    have h1 : (c + z * evI t z).natAbs ≤ c.natAbs + z.natAbs * (evI t z).natAbs := by
      rw [← Int.natAbs_mul]; exact Int.natAbs_add_le _ _
    have h2 : z.natAbs * ((evI t z).natAbs + 1) ≤ 2 ^ 900 * 2 ^ (1000 * t.length) := Nat.mul_le_mul (Nat.le_of_lt hz) ih
    have h3 : 2 ^ (1000 * (t.length + 1)) = 2 ^ 1000 * 2 ^ (1000 * t.length) := by rw [← Nat.pow_add]; congr 1; omega
    rw [h3]
    rw [Nat.mul_add, Nat.mul_one] at h2
    have h4 : 1 ≤ 2 ^ (1000 * t.length) := Nat.one_le_two_pow
    generalize 2 ^ (1000 * t.length) = w at *
    have h5 : 2 ^ 1000 * w = 2 ^ 900 * w + (2 ^ 1000 - 2 ^ 900) * w := by rw [← Nat.add_mul]; congr 1
    have h6 : (2 ^ 1000 - 2 ^ 900) * 1 ≤ (2 ^ 1000 - 2 ^ 900) * w := Nat.mul_le_mul_left _ h4
    generalize z.natAbs * (evI t z).natAbs = y at *
    generalize 2 ^ 900 * w = u at *
    generalize (2 ^ 1000 - 2 ^ 900) * w = v at *
    have h7 : 2 ^ 900 + 1 ≤ (2 ^ 1000 - 2 ^ 900) * 1 := by decide
    omega
theorem ev_fits {P : List Int} {z : Int} (hl : P.length ≤ 12) (h : ∀ c ∈ P, c.natAbs < 2 ^ 900) (hz : z.natAbs < 2 ^ 900) : mulFits (evI P z) z = true := by
  have h1 := ev_bnd P z h hz
  have h2 : 2 ^ (1000 * P.length) ≤ 2 ^ 12000 := Nat.pow_le_pow_right (by decide) (by omega)
  exact fits_of (a := 12000) (b := 900) (by omega) hz (by decide)
end PR
open PR
theorem poly_at_spec {P : List Int} {z : Int} (hb : Bd P) (hz : z.natAbs < 2 ^ 900) (S : Sto) (hS : Sane S) : m_poly_at [.tup (P.map .int), .int z] S = .ok (.int (evI P z)) S := by
  refine m_defS hS rfl ?_
  show (b_poly_at [some (.tup (P.map .int)), some (.int z), none, none] S).post _ _ _ _
  unfold b_poly_at
  walk_at "3"
  refine p_rev ?_
  walk_at "3"
  refine .inr (.inl ⟨_, rfl, ?_⟩)
  rw [← List.map_reverse]
  refine s_forT D.int (fun xs δ S2 => ∃ (dn : List Int) (o3 : Option D), P = xs.reverse ++ dn ∧ S2 = S ∧ δ = [some (.tup (P.map .int)), some (.int z), some (.int (evI dn z)), o3]) ?_ ?_ _ _ _ ⟨[], none, by simp, rfl, rfl⟩
  · rintro x xs δ S2 ⟨dn, o3, he, rfl, rfl⟩
    have hd : ∀ c ∈ dn, c.natAbs < 2 ^ 900 := fun c hc => hb.2 c (by rw [he]; exact List.mem_append_right _ hc)
    have hl : dn.length ≤ 12 := by have := hb.1; rw [he, List.length_append] at this; omega
    walk_at "3"
    refine o_mul (ev_fits hl hd hz) ?_
    walk_at "3"
    have evE : evI dn z * z + x = evI (x :: dn) z := by show _ = x + z * evI dn z; rw [Int.mul_comm z, Int.add_comm]
    rw [evE]
    exact ⟨x :: dn, _, by rw [he, List.reverse_cons, List.append_assoc]; rfl, rfl, rfl⟩
  · rintro δ S2 ⟨dn, o3, he, rfl, rfl⟩
    have he : P = dn := he
    subst he
    walk_at "3"
    exact ⟨rfl, rfl⟩
def enP : Nat → List Int → List (Nat × Int)
  | _, [] => []
  | n, c :: r => (n, c) :: enP (n + 1) r
theorem enum_P : ∀ (n : Nat) (P : List Int), enumD n (P.map .int) = (enP n P).map fun q => D.tux [.int q.1, .int q.2]
  | _, [] => rfl
  | n, c :: r => by show D.tux [.int n, .int c] :: enumD (n + 1) (r.map .int) = _; rw [enum_P (n + 1) r]; rfl
theorem enP_dZ : ∀ (n : Nat) (P : List Int), (enP n P).map (fun q => (q.1 : Int) * q.2) = dZ n P
  | _, [] => rfl
  | n, c :: r => by show (n : Int) * c :: (enP (n + 1) r).map _ = _; rw [enP_dZ (n + 1) r]; rfl
theorem enP_len : ∀ (n : Nat) (P : List Int), (enP n P).length = P.length
  | _, [] => rfl
  | n, c :: r => by show (enP (n + 1) r).length + 1 = _; rw [enP_len (n + 1) r]; rfl
theorem enP_mem : ∀ (n : Nat) (P : List Int) {q : Nat × Int}, q ∈ enP n P → q.1 < n + P.length ∧ q.2 ∈ P
  | _, [], _, h => nomatch h
  | n, c :: r, q, h => by
    rcases List.mem_cons.mp h with rfl | h
    · exact ⟨by rw [List.length_cons]; dsimp only; omega, List.mem_cons_self⟩
    · obtain ⟨a, b⟩ := enP_mem (n + 1) r h
      exact ⟨by rw [List.length_cons]; omega, List.mem_cons_of_mem _ b⟩
theorem cut_tailP {A : Type} (xs : List A) : cutD xs (some 1) none = xs.tail := by
  unfold cutD
  rw [show (1 : Int) = ((1 : Nat) : Int) from rfl, HT.sIx_nat]
  cases xs with
  | nil => rfl
  | cons x r =>
    show List.take ((r.length + 1) - min 1 (r.length + 1)) (List.drop (min 1 (r.length + 1)) (x :: r)) = r
    rw [Nat.min_eq_left (by omega)]
    show List.take r.length r = r
    exact List.take_length
theorem dZ_tail : ∀ P : List Int, (dZ 0 P).tail = slope P
  | [] => rfl
  | _ :: _ => rfl
theorem slope_of_spec {P : List Int} (hb : Bd P) (S : Sto) (hS : Sane S) : m_slope_of [.tup (P.map .int)] S = .ok (.tup ((slope P).map .int)) S := by
  have sl : 3000 ≤ sizeLine := by decide
  refine m_defS hS (closed_ints' _) ?_
  show (b_slope_of [some (.tup (P.map .int)), none, none] S).post _ _ _ _
  unfold b_slope_of
  walk_at "3"
  refine p_cutP ?_
  walk_at "3"
  refine p_lc ?_
  refine p_bind (p_cons (p_var rfl (p_nil ?_)))
  show Res.post (.ok (enumD 0 (P.map .int)) S) _
  refine Res.post.of_eq rfl ?_
  rw [enum_P]
  dsimp only [wipeD, List.set_cons_zero, List.set_cons_succ]
  refine Res.post.of_eq (lcTm (xs := enP 0 P) (fun q => D.tux [.int q.1, .int q.2]) D.int (fun q => (q.1 : Int) * q.2) fun q hq => ⟨_, rfl, ?_⟩) ⟨by rw [List.length_map, List.length_map, enP_len]; have := hb.1; omega, ?_⟩
  · obtain ⟨h1, h2⟩ := enP_mem 0 P hq
    refine exact_of ?_
    have h3 := hb.1
    walk_at "3"
    refine o_mul (fits_of (a := 4) (b := 900) (by show q.1 < 2 ^ 4; omega) (hb.2 _ h2) (by decide)) ?_
    exact ⟨rfl, rfl⟩
  · rw [enP_dZ]
    walk_at "3"
    rw [cut_tailP, ← List.map_tail, dZ_tail]
    walk_at "3"
    exact ⟨rfl, rfl⟩
theorem divided_spec {c : Int} {P : List Int} {z : Int} (hb : Bd (c :: P)) (hz : z.natAbs < 2 ^ 900) (S : Sto) (hS : Sane S) : m_divided [.tup ((c :: P).map .int), .int z] S = .ok (.tup ((hq z P).map .int)) S := by
  have sl : 3000 ≤ sizeLine := by decide
  refine m_defJ hS (closed_ints' _) ?_
  show (b_divided [some (.tup ((c :: P).map .int)), some (.int z), none, none, none] S).post _ _ _ _
  unfold b_divided
  walk_at "3"
  have rr : (rStep0 (rVar 0) oNone (oSome (rC (.int 0))) (oSome (rUn gNeg (rC (.int 1)))) : RE) [some (.tup ((c :: P).map .int)), some (.int z), some (.ptr S.length), some (.int 0), none] (S ++ [.lst []]) = .ok (.tup (P.reverse.map .int)) (S ++ [.lst []]) := by
    show Res.ok (D.tup (P.map D.int).reverse) (S ++ [D.lst []]) = _
    rw [List.map_reverse]
  refine Res.post.of_eq rr ?_
  refine .inr (.inl ⟨_, rfl, ?_⟩)
  refine s_forT D.int (fun xs δ S2 => ∃ (dn : List Int) (o4 : Option D), P = xs.reverse ++ dn ∧ S2 = S ++ [.lst ((hq z dn).map .int)] ∧ δ = [some (.tup ((c :: P).map .int)), some (.int z), some (.ptr S.length), some (.int (evI dn z)), o4]) ?_ ?_ _ _ _ ⟨[], none, by simp, rfl, rfl⟩
  · rintro x xs δ S2 ⟨dn, o4, he, rfl, rfl⟩
    have hd : ∀ c ∈ dn, c.natAbs < 2 ^ 900 := fun c hc => hb.2 c (by rw [he]; exact List.mem_cons_of_mem _ (List.mem_append_right _ hc))
    have hl : dn.length ≤ 12 := by have := hb.1; rw [he, List.length_cons, List.length_append] at this; omega
    have hql : ∀ l : List Int, (hq z l).length = l.length := fun l => by
      induction l with
      | nil => rfl
      | cons c t ih => show (hq z t).length + 1 = _; rw [ih]; rfl
    walk_at "3"
    refine o_mul (ev_fits hl hd hz) ?_
    walk_at "3"
    refine p_meth ?_
    walk_at "3"
    refine ⟨by unfold isTy; rw [deref_app]; rfl, ?_⟩
    walk_at "3"
    refine ⟨.non, S ++ [.lst ((hq z (x :: dn)).map .int)], ?_, ?_⟩
    · unfold mInsert
      dsimp only
      rw [get_app]
      dsimp only
      rw [if_pos ⟨by rw [List.length_map, hql]; omega, by decide, by decide⟩, set_app]
      show some (D.non, S ++ [D.lst ([] ++ [D.int (evI dn z * z + x)] ++ (hq z dn).map .int)]) = _
      rw [show evI dn z * z + x = x + z * evI dn z by rw [Int.mul_comm z, Int.add_comm]]
      rfl
    · have evE : evI dn z * z + x = evI (x :: dn) z := by show _ = x + z * evI dn z; rw [Int.mul_comm z, Int.add_comm]
      rw [evE]
      exact ⟨x :: dn, _, by rw [he, List.reverse_cons, List.append_assoc]; rfl, rfl, rfl⟩
  · rintro δ S2 ⟨dn, o4, he, rfl, rfl⟩
    have he : P = dn := he
    subst he
    walk_at "3"
    refine p_lift (a := .tup ((hq z P).map .int)) (by show (match deref (S ++ [D.lst ((hq z P).map .int)]) (.ptr S.length) with | .lst xs => some (D.tup xs) | .tup xs => some (D.tup xs) | _ => none) = _; rw [deref_app]) ?_
    exact ⟨rfl, take_app⟩
end DL


set_option Elab.async false
set_option linter.all false
set_option maxRecDepth 100000
set_option maxHeartbeats 4000000
set_option autoImplicit false
/-! k30: keys of whole numbers; where a poly crosses; the spots between. -/
namespace DL
open PySem L2
open Emb
local macro_rules | `(tactic| walk_at "1") => `(tactic| with_reducible first
  | refine s_seq ?_ | refine s_asg ?_ | refine s_ret ?_ | refine s_if ?_ | refine s_expr ?_ | refine s_next ?_ | refine s_brk ?_ | refine s_cont ?_ | refine s_for ?_ | refine s_while ?_
  | refine p_c ?_ | refine p_bin ?_ | refine p_as ?_ | refine p_cons ?_ | refine p_nil ?_ | refine p_un ?_ | refine p_call ?_ | refine p_if ?_ | refine p_own ?_
  | refine p_keep ?_ | refine p_tru ?_ | refine p_and ?_ | refine p_or ?_ | refine p_not ?_ | refine p_val ?_ | refine p_rand ?_ | refine p_ror ?_ | refine p_rnot ?_ | refine p_chain ?_ | refine p_bif ?_
  | refine o_add ?_ | refine o_sub ?_ | refine o_ltU ?_ | refine o_leU ?_ | refine o_gtU ?_ | refine o_geU ?_ | refine o_neg ?_ | refine o_eqI ?_ | refine o_neI ?_ | refine o_abs ?_ | refine o_tru ?_ | refine p_true ?_ | refine p_false ?_
  | refine o_lenT ?_ | refine o_lenL ?_ | refine o_ix0 ?_ | refine o_ix1 ?_ | refine o_ix2 ?_ | refine o_ix0L ?_ | refine o_ix1L ?_ | refine o_ix2L ?_
  | refine s_par ?_ | refine p_yes ?_ | refine p_seq ?_ | refine s_gnil ?_ | refine s_gcons ?_ | refine s_gtux ?_ | refine s_gtupl ?_ | refine p_onone ?_ | refine p_osome ?_ | refine p_get2 ?_ | refine s_putU ?_ | refine p_sortIt ?_)
local macro_rules | `(tactic| walk_at "2") => `(tactic| first
  | walk_at "1"
  | (with_reducible refine p_var2 ?_)
  | ((with_reducible refine s_name ?_ ?_); (· exact Nat.le_of_ble_eq_true rfl); dsimp only [List.set_cons_zero, List.set_cons_succ])
  | (with_reducible refine p_tup ?_) | (with_reducible refine p_lst ?_) | ((with_reducible refine ⟨?_, ?_⟩); (· exact Nat.le_of_ble_eq_true rfl))
  | ((with_reducible refine p_ex2 (x := ?_) (y := ?_) ?_ ?_); rotate_left; rotate_left; (· rfl); refine ⟨?_, ?_, ?_⟩; (· exact Nat.le_of_ble_eq_true rfl); (· exact Nat.le_of_ble_eq_true rfl); dsimp only [List.set_cons_zero, List.set_cons_succ])
  | ((with_reducible refine p_isT ?_ ?_); (· rfl)) | ((with_reducible refine p_isF ?_ ?_); (· rfl))
  | ((with_reducible refine p_ex (x := ?_) ?_ ?_); rotate_left; (· rfl)))
local macro_rules | `(tactic| walk_at "3") => `(tactic| repeat walk_at "2")
theorem sub_len {α : Type} [DecidableEq α] : ∀ {a b : List α}, a.Nodup → (∀ x ∈ a, x ∈ b) → a.length ≤ b.length
  | [], b, _, _ => Nat.zero_le _
  | x :: r, b, h, hs => by
    obtain ⟨h1, h2⟩ := List.nodup_cons.mp h
    have hx := hs x List.mem_cons_self
    have ih := sub_len (a := r) (b := b.erase x) h2 fun y hy => (List.mem_erase_of_ne (fun e => h1 (by rw [← e]; exact hy))).mpr (hs y (List.mem_cons_of_mem _ hy))
    rw [List.length_erase_of_mem hx] at ih
    have : 0 < b.length := List.length_pos_of_mem hx
    rw [List.length_cons]
    omega
theorem p_upd {a e : RE} {δ : Sl} {S : Sto} {Q : D → Sto → Prop} (h : (a δ S).post fun x S1 => ∃ n kv0, x = .ptr n ∧ S1[n]? = some (.dct kv0) ∧ (e δ S1).post fun y S2 => ∃ m kvs more, y = .ptr m ∧ n ≠ m ∧ S2[n]? = some (.dct kvs) ∧ S2[m]? = some (.dct more) ∧ kvs.length + more.length ≤ sizeLine ∧ Q .non (S2.set n (.dct (mergeD kvs more)))) : (rUpd a e δ S).post Q :=
  p_bind (h.mono fun x S1 ⟨n, kv0, e1, e2, q⟩ => by
    subst e1
    dsimp only
    rw [e2]
    dsimp only
    refine p_bind (q.mono fun y S2 ⟨m, kvs, more, e3, hne, e4, e5, hl, q2⟩ => ?_)
    subst e3
    unfold updD
    dsimp only
    rw [if_neg hne, e4, e5]
    dsimp only
    rw [if_pos hl]
    exact q2)
open PR
/-! ### dicts of whole keys, all of them true -/
def kb (ks : List Int) : List (D × D) := ks.map fun k => (.int k, .bl true)
def insK (ks : List Int) (k : Int) : List Int := if k ∈ ks then ks else ks ++ [k]
theorem kb_len (ks : List Int) : (kb ks).length = ks.length := List.length_map _
theorem look_kb (k : Int) : ∀ ks : List Int, lookD (kb ks) (.int k) = if k ∈ ks then some (.bl true) else none
  | [] => rfl
  | j :: r => by
    show (if keyEq (.int j) (.int k) then some (D.bl true) else lookD (kb r) (.int k)) = _
    rw [look_kb k r]
    have e : keyEq (.int j) (.int k) = (j == k) := rfl
    rw [e]
    by_cases h : j = k
    · subst h; simp
    · rw [if_neg (by simpa using h)]
      have : (k ∈ j :: r) ↔ k ∈ r := by simp [List.mem_cons, fun e : k = j => h e.symm]; exact fun e => absurd e.symm h
      by_cases m : k ∈ r
      · rw [if_pos m, if_pos (this.mpr m)]
      · rw [if_neg m, if_neg (fun x => m (this.mp x))]
theorem repl_kb (k : Int) : ∀ ks : List Int, replD (kb ks) (.int k) (.bl true) = kb ks
  | [] => rfl
  | j :: r => by
    show (if keyEq (.int j) (.int k) then (D.int j, D.bl true) :: replD (kb r) (.int k) (.bl true) else (D.int j, D.bl true) :: replD (kb r) (.int k) (.bl true)) = _
    rw [repl_kb k r]
    split <;> rfl
theorem put_kb (ks : List Int) (k : Int) : putD (kb ks) (.int k) (.bl true) = kb (insK ks k) := by
  unfold putD insK
  rw [look_kb, repl_kb]
  by_cases h : k ∈ ks
  · rw [if_pos h, if_pos h]; rfl
  · rw [if_neg h, if_neg h]
    show kb ks ++ [(.int k, .bl true)] = kb (ks ++ [k])
    unfold kb
    rw [List.map_append]; rfl
theorem merge_kb : ∀ (ms ks : List Int), mergeD (kb ks) (kb ms) = kb (ms.foldl insK ks)
  | [], ks => rfl
  | m :: r, ks => by
    show mergeD (putD (kb ks) (.int m) (.bl true)) (kb r) = _
    rw [put_kb, merge_kb r]; rfl
theorem mem_insK {ks : List Int} {k x : Int} : x ∈ insK ks k ↔ x ∈ ks ∨ x = k := by
  unfold insK
  split
  · rename_i h
    exact ⟨.inl, fun q => q.elim id fun e => by subst e; exact h⟩
  · simp
theorem nd_insK {ks : List Int} {k : Int} (h : ks.Nodup) : (insK ks k).Nodup := by
  unfold insK
  split
  · exact h
  · rename_i q
    rw [List.nodup_append]
    exact ⟨h, by simp, fun a ha b hb e => by rw [List.mem_singleton.mp hb] at e; subst e; exact q ha⟩
theorem len_insK (ks : List Int) (k : Int) : (insK ks k).length ≤ ks.length + 1 := by
  unfold insK
  split
  · omega
  · simp
theorem keys_kb : ∀ ks : List Int, intKeys (kb ks) = some ks
  | [] => rfl
  | k :: r => by show (intKeys (kb r)).map (k :: ·) = _; rw [keys_kb r]; rfl
theorem kb_closed (n : Nat) (ks : List Int) : D.closed n (.dct (kb ks)) = true := by
  unfold D.closed
  induction ks with
  | nil => rfl
  | cons k r ih =>
    show (D.closed n (.int k) && D.closed n (.bl true) && closedK n (kb r)) = true
    rw [ih]; rfl
theorem put_kbU {ks : List Int} (k : Int) (h : ks.length < sizeLine) : putU (.dct (kb ks)) (.int k) (.bl true) = some (.dct (kb (insK ks k))) := by
  unfold putU
  dsimp only
  rw [if_pos (show isKey (.int k) = true from rfl), kb_len, if_pos h, put_kb]
theorem deref_kb {S : Sto} {j : Nat} {ks : List Int} (h : S[j]? = some (.dct (kb ks))) : deref S (.ptr j) = .dct (kb ks) := deref_d h
theorem sort_kb {S : Sto} {j : Nat} {ks : List Int} (h : S[j]? = some (.dct (kb ks))) : gSortKeysI S [.ptr j] = some (.lst ((sortI ks).map .int)) := by
  unfold gSortKeysI
  dsimp only
  rw [deref_kb h]
  dsimp only
  rw [keys_kb]
  rfl
theorem two_kb {S : Sto} {δ : Sl} {ea eb : RE} {a b : Int} {Q : D → Sto → Prop} (ha : ea δ S = .ok (.int a) S) (hb : eb δ S = .ok (.int b) S) (h : Q (.dct (kb (insK (insK [] a) b))) S) : (rDisp [(ea, rC (.bl true)), (eb, rC (.bl true))] δ S).post Q := by
  refine p_disp ?_
  refine p_pairs ?_
  refine Res.post.of_eq ha ?_
  refine p_c ?_
  refine p_pairs ?_
  refine Res.post.of_eq hb ?_
  refine p_c ?_
  refine p_pairs_nil ?_
  refine ⟨rfl, ?_⟩
  have e := merge_kb [a, b] []
  rw [show mergeD [] [(D.int a, D.bl true), (D.int b, D.bl true)] = kb (insK (insK [] a) b) from e]
  exact h
/-- a store's tail of dicts -/
def Dcts (ws : List D) : Prop := ∀ w ∈ ws, ∃ l, w = .dct (kb l)
theorem dcts_closed {n : Nat} : ∀ {ws : List D}, Dcts ws → closedL n ws = true
  | [], _ => rfl
  | w :: r, h => by
    obtain ⟨l, rfl⟩ := h w List.mem_cons_self
    show (D.closed n (.dct (kb l)) && closedL n r) = true
    rw [kb_closed, dcts_closed fun x hx => h x (List.mem_cons_of_mem _ hx)]
    rfl
theorem sane_dcts {S : Sto} {ws : List D} (hS : Sane S) (h : Dcts ws) : Sane (S ++ ws) := by
  unfold Sane
  rw [List.length_append]
  exact closedL_app (closedL_mono (Nat.le_add_right _ _) hS) (dcts_closed h)
theorem mem_sortI {ks : List Int} {x : Int} : x ∈ sortI ks ↔ x ∈ ks := (sortI_perm ks).mem_iff
theorem sortI_lt {ks : List Int} (h : ks.Nodup) : (sortI ks).Pairwise (· < ·) := by
  have h1 := sortI_pairwise ks
  have h2 : (sortI ks).Pairwise (· ≠ ·) := (sortI_perm ks).nodup_iff.mpr h
  exact (List.Pairwise.and h1 h2).imp fun {a b} q => by have := q.1; have := q.2; omega
theorem eqB {S : Sto} (a b : Bool) : gEq S (.bl a) (.bl b) = some (.bl (a == b)) := by cases a <;> cases b <;> rfl
theorem neB {S : Sto} (a b : Bool) : gNe S (.bl a) (.bl b) = some (.bl (!(a == b))) := by cases a <;> cases b <;> rfl
/-! ### where a poly crosses -/
def Cro (P : List Int) (low high : Int) (d : D) : Prop := ∃ c, d = .int c ∧ low ≤ c ∧ c < high ∧ (evI P c < 0 ↔ evI P low < 0) ∧ ¬ (evI P (c + 1) < 0 ↔ evI P low < 0)
theorem mid_of {lo hi : Int} (h : 1 < hi - lo) : lo < (lo + hi).fdiv 2 ∧ (lo + hi).fdiv 2 < hi := by
  rw [Int.fdiv_eq_ediv_of_nonneg _ (by decide)]
  omega
theorem crossed_spec {P : List Int} {low high : Int} (hb : Bd P) (hlt : low < high) (h1 : low.natAbs < 2 ^ 900) (h2 : high.natAbs < 2 ^ 900) (hs : ¬ (evI P high < 0 ↔ evI P low < 0)) (S : Sto) (hS : Sane S) :
    (m_crossed [.tup (P.map .int), .int low, .int high] S).post fun d S' => Cro P low high d ∧ S' = S := by
  refine m_defQ hS (fun d ⟨c, e, _⟩ => by subst e; rfl) ?_
  show (b_crossed [some (.tup (P.map .int)), some (.int low), some (.int high), none, none] S).post _ _ _ _
  unfold b_crossed
  walk_at "3"
  refine Res.post.of_eq (poly_at_spec hb h1 S hS) ?_
  walk_at "3"
  refine s_whileL (fun n δ S2 => ∃ (lo hi : Int) (o4 : Option D), low ≤ lo ∧ lo < hi ∧ hi ≤ high ∧ (hi - lo).toNat ≤ n ∧ (evI P lo < 0 ↔ evI P low < 0) ∧ ¬ (evI P hi < 0 ↔ evI P low < 0) ∧ S2 = S ∧ δ = [some (.tup (P.map .int)), some (.int lo), some (.int hi), some (.bl (decide (evI P low < 0))), o4]) ?_ (high - low).toNat _ _ _ ⟨low, high, none, Int.le_refl _, hlt, Int.le_refl _, Nat.le_refl _, Iff.rfl, hs, rfl, rfl⟩ ?_
  · rintro n δ S2 ⟨lo, hi, o4, a1, a2, a3, an, a4, a5, rfl, rfl⟩
    walk_at "3"
    refine ⟨fun k => ?_, fun k => ?_⟩
    · have k := of_decide_eq_true k
      obtain ⟨m1, m2⟩ := mid_of k
      refine ⟨n - 1, by omega, ?_⟩
      walk_at "3"
      refine o_div ⟨by decide, by decide⟩ ?_
      generalize (lo + hi).fdiv 2 = mid at *
      walk_at "3"
      refine Res.post.of_eq (poly_at_spec hb (by omega) _ hS) ?_
      walk_at "3"
      refine p_lift (eqB _ _) ?_
      walk_at "3"
      refine ⟨fun k2 => ?_, fun k2 => ?_⟩
      · have k2 : evI P mid < 0 ↔ evI P low < 0 := by simpa using k2
        walk_at "3"
        exact ⟨mid, hi, _, by omega, m2, a3, by omega, k2, a5, rfl, rfl⟩
      · have k2 : ¬ (evI P mid < 0 ↔ evI P low < 0) := by simpa using k2
        walk_at "3"
        exact ⟨lo, mid, _, a1, m1, by omega, by omega, a4, k2, rfl, rfl⟩
    · have k := of_decide_eq_false k
      walk_at "3"
      refine ⟨⟨lo, rfl, a1, by omega, a4, ?_⟩, rfl⟩
      rw [show lo + 1 = hi by omega]
      exact a5
  · show _ < natAt [some (.tup (P.map .int)), some (.int low), some (.int high), some (.bl (decide (evI P low < 0))), none] 2 + natAt [some (.tup (P.map .int)), some (.int low), some (.int high), some (.bl (decide (evI P low < 0))), none] 1 + 1
    show _ < high.natAbs + low.natAbs + 1
    omega
end DL

set_option Elab.async false
set_option linter.all false
set_option maxRecDepth 100000
set_option maxHeartbeats 4000000
set_option autoImplicit false
/-! k30: the spots between. -/
namespace DL
open PySem L2
open Emb
local macro_rules | `(tactic| walk_at "1") => `(tactic| with_reducible first
  | refine s_seq ?_ | refine s_asg ?_ | refine s_ret ?_ | refine s_if ?_ | refine s_expr ?_ | refine s_next ?_ | refine s_brk ?_ | refine s_cont ?_ | refine s_for ?_ | refine s_while ?_
  | refine p_c ?_ | refine p_bin ?_ | refine p_as ?_ | refine p_cons ?_ | refine p_nil ?_ | refine p_un ?_ | refine p_call ?_ | refine p_if ?_ | refine p_own ?_
  | refine p_keep ?_ | refine p_tru ?_ | refine p_and ?_ | refine p_or ?_ | refine p_not ?_ | refine p_val ?_ | refine p_rand ?_ | refine p_ror ?_ | refine p_rnot ?_ | refine p_chain ?_ | refine p_bif ?_
  | refine o_add ?_ | refine o_sub ?_ | refine o_ltU ?_ | refine o_leU ?_ | refine o_gtU ?_ | refine o_geU ?_ | refine o_neg ?_ | refine o_eqI ?_ | refine o_neI ?_ | refine o_abs ?_ | refine o_tru ?_ | refine p_true ?_ | refine p_false ?_
  | refine o_lenT ?_ | refine o_lenL ?_ | refine o_ix0 ?_ | refine o_ix1 ?_ | refine o_ix2 ?_ | refine o_ix0L ?_ | refine o_ix1L ?_ | refine o_ix2L ?_
  | refine s_par ?_ | refine p_yes ?_ | refine p_seq ?_ | refine s_gnil ?_ | refine s_gcons ?_ | refine s_gtux ?_ | refine s_gtupl ?_ | refine p_onone ?_ | refine p_osome ?_ | refine p_get2 ?_ | refine s_putU ?_ | refine p_sortIt ?_)
local macro_rules | `(tactic| walk_at "2") => `(tactic| first
  | walk_at "1"
  | (with_reducible refine p_var2 ?_)
  | ((with_reducible refine s_name ?_ ?_); (· exact Nat.le_of_ble_eq_true rfl); dsimp only [List.set_cons_zero, List.set_cons_succ])
  | (with_reducible refine p_tup ?_) | (with_reducible refine p_lst ?_) | ((with_reducible refine ⟨?_, ?_⟩); (· exact Nat.le_of_ble_eq_true rfl))
  | ((with_reducible refine p_ex2 (x := ?_) (y := ?_) ?_ ?_); rotate_left; rotate_left; (· rfl); refine ⟨?_, ?_, ?_⟩; (· exact Nat.le_of_ble_eq_true rfl); (· exact Nat.le_of_ble_eq_true rfl); dsimp only [List.set_cons_zero, List.set_cons_succ])
  | ((with_reducible refine p_isT ?_ ?_); (· rfl)) | ((with_reducible refine p_isF ?_ ?_); (· rfl))
  | ((with_reducible refine p_ex (x := ?_) ?_ ?_); rotate_left; (· rfl)))
local macro_rules | `(tactic| walk_at "3") => `(tactic| repeat walk_at "2")
open PR
theorem adj : ∀ {E : List Int} {low high : Int}, E.Pairwise (· < ·) → low ∈ E → high ∈ E → low < high → (∀ x ∈ E, ¬ (low < x ∧ x < high)) → (low, high) ∈ E.zip E.tail
  | [], _, _, _, h, _, _, _ => nomatch h
  | e :: r, low, high, hp, h1, h2, hlt, hn => by
    obtain ⟨p1, p2⟩ := List.pairwise_cons.mp hp
    rcases List.mem_cons.mp h1 with rfl | h1
    · rcases List.mem_cons.mp h2 with rfl | h2
      · omega
      · rcases r with _ | ⟨f, r⟩
        · nomatch h2
        · have hf := p1 f List.mem_cons_self
          have : f = high := by
            rcases List.mem_cons.mp h2 with rfl | h3
            · rfl
            · have := (List.pairwise_cons.mp p2).1 high h3
              exact absurd ⟨hf, this⟩ (hn f (List.mem_cons_of_mem _ List.mem_cons_self))
          subst this
          exact List.mem_cons_self
    · have he := p1 low h1
      have h2 : high ∈ r := by
        rcases List.mem_cons.mp h2 with rfl | h2
        · omega
        · exact h2
      have ih := adj p2 h1 h2 hlt fun x hx => hn x (List.mem_cons_of_mem _ hx)
      rcases r with _ | ⟨f, r⟩
      · nomatch h1
      · exact List.mem_cons_of_mem _ ih
theorem adj_lt : ∀ {E : List Int} {q : Int × Int}, E.Pairwise (· < ·) → q ∈ E.zip E.tail → q.1 ∈ E ∧ q.2 ∈ E ∧ q.1 < q.2
  | [], _, _, h => nomatch h
  | [e], _, _, h => nomatch h
  | e :: f :: r, q, hp, h => by
    obtain ⟨p1, p2⟩ := List.pairwise_cons.mp hp
    rcases List.mem_cons.mp h with rfl | h
    · exact ⟨List.mem_cons_self, List.mem_cons_of_mem _ List.mem_cons_self, p1 f List.mem_cons_self⟩
    · obtain ⟨a, b, c⟩ := adj_lt p2 h
      exact ⟨List.mem_cons_of_mem _ a, List.mem_cons_of_mem _ b, c⟩
theorem zip_kb : ∀ (xs ys : List Int), zipD (xs.map .int) (ys.map .int) = (xs.zip ys).map fun q => D.tux [.int q.1, .int q.2]
  | [], _ => rfl
  | x :: xs, [] => rfl
  | x :: xs, y :: ys => by show D.tux [.int x, .int y] :: zipD (xs.map .int) (ys.map .int) = _; rw [zip_kb xs ys]; rfl
theorem pts_len (spots : List Int) (far : Int) : (pts spots far).length = 2 * spots.length + 2 := by
  unfold pts
  rw [List.length_cons, List.length_cons]
  have : ∀ l : List Int, (l.flatMap fun s => [s, s + 1]).length = 2 * l.length := fun l => by
    induction l with
    | nil => rfl
    | cons s r ih => rw [List.flatMap_cons, List.length_append, ih, List.length_cons]; simp; omega
  rw [this]
/-- what the dict of spots may hold -/
structure Fnd (Z : Nat) (P : List Int) (pt C F : List Int) : Prop where
  nd : F.Nodup
  sub : ∀ x ∈ F, x ∈ pt ∨ x ∈ C
  z : ∀ x ∈ C, x.natAbs ≤ Z
theorem fnd_len {Z : Nat} {P pt C F : List Int} (h : Fnd Z P pt C F) : F.length ≤ pt.length + C.length := by
  have := sub_len (a := F) (b := pt ++ C) h.nd fun x hx => List.mem_append.mpr (h.sub x hx)
  rwa [List.length_append] at this
theorem fnd_two {Z : Nat} {P pt C F : List Int} {a b : Int} (h : Fnd Z P pt C F) (ha : a ∈ pt) (hb : b ∈ pt) : Fnd Z P pt C ((insK (insK [] a) b).foldl insK F) := by
  have hm : ∀ x ∈ insK (insK [] a) b, x = a ∨ x = b := fun x hx => by
    rcases mem_insK.mp hx with hx | e
    · rcases mem_insK.mp hx with hx | e
      · nomatch hx
      · exact .inl e
    · exact .inr e
  have : ∀ (ms F : List Int), (∀ x ∈ ms, x ∈ pt) → Fnd Z P pt C F → Fnd Z P pt C (ms.foldl insK F) := fun ms => by
    induction ms with
    | nil => exact fun F _ h => h
    | cons m r ih =>
      intro F hx h
      refine ih _ (fun x q => hx x (List.mem_cons_of_mem _ q)) ⟨nd_insK h.nd, fun x q => ?_, h.z⟩
      rcases mem_insK.mp q with q | e
      · exact h.sub x q
      · subst e; exact .inl (hx x List.mem_cons_self)
  exact this _ F (fun x hx => by rcases hm x hx with e | e <;> rw [e] <;> assumption) h
theorem mem_fold {x : Int} : ∀ {ms F : List Int}, x ∈ ms.foldl insK F ↔ x ∈ F ∨ x ∈ ms
  | [], F => by simp
  | m :: r, F => by
    show x ∈ r.foldl insK (insK F m) ↔ _
    rw [mem_fold, mem_insK, List.mem_cons, or_assoc]
theorem mem_two {a b x : Int} : x ∈ insK (insK [] a) b ↔ x = a ∨ x = b := by
  rw [mem_insK, mem_insK]; simp
theorem two_len (a b : Int) : (insK (insK [] a) b).length ≤ 2 := by
  have h1 := len_insK [] a
  have h2 := len_insK (insK [] a) b
  simp only [List.length_nil] at h1
  omega
theorem nd_fold : ∀ {ms F : List Int}, F.Nodup → (ms.foldl insK F).Nodup
  | [], F, h => h
  | m :: r, F, h => nd_fold (ms := r) (nd_insK h)
theorem dcts_snoc {ws : List D} {l : List Int} (h : Dcts ws) : Dcts (ws ++ [.dct (kb l)]) := fun w hw => by
  rcases List.mem_append.mp hw with hw | hw
  · exact h w hw
  · exact ⟨l, List.mem_singleton.mp hw⟩
theorem at0 {S : Sto} {a : D} {ws : List D} : (S ++ a :: ws)[S.length]? = some a := by simp
theorem at1 {S : Sto} {a b : D} {ws : List D} : (S ++ a :: b :: ws)[S.length + 1]? = some b := by
  rw [List.getElem?_append_right (by omega)]
  simp
theorem set0 {S : Sto} {a b : D} {ws : List D} : (S ++ a :: ws).set S.length b = S ++ b :: ws := by
  rw [List.set_append_right _ _ (Nat.le_refl _)]
  simp
theorem set1 {S : Sto} {a b c : D} {ws : List D} : (S ++ a :: b :: ws).set (S.length + 1) c = S ++ a :: c :: ws := by
  rw [List.set_append_right _ _ (by omega)]
  simp
/-- d.update({x: True, y: True}) -/
theorem upd_two {δ : Sl} {S : Sto} {i k : Nat} {ea eb : RE} {a b : Int} {F : List Int} {Q : D → Sto → Prop} (hi : δ[i]? = some (some (.ptr k))) (hk : S[k]? = some (.dct (kb F))) (ha : ea δ S = .ok (.int a) S) (hb : eb δ S = .ok (.int b) S) (hl : F.length + 2 ≤ sizeLine)
    (h : Q .non ((S ++ [D.dct (kb (insK (insK [] a) b))]).set k (D.dct (kb ((insK (insK [] a) b).foldl insK F))))) : (rUpd (rVar i) (rOwn (rDisp [(ea, rC (.bl true)), (eb, rC (.bl true))])) δ S).post Q := by
  have hlt := (List.getElem?_eq_some_iff.mp hk).1
  refine p_upd ?_
  refine p_var hi ⟨k, _, rfl, hk, ?_⟩
  refine p_own ?_
  refine two_kb ha hb ?_
  refine ⟨S.length, kb F, kb (insK (insK [] a) b), rfl, by omega, by rw [List.getElem?_append_left hlt]; exact hk, get_app, by rw [kb_len, kb_len]; have := two_len a b; omega, ?_⟩
  rw [merge_kb]
  exact h
/-- what a level's spots are -/
def Lev (P spots : List Int) (far : Int) (Z L : Nat) (d : D) : Prop := ∃ s', d = .lst (s'.map .int) ∧ Step P spots far s' ∧ (∀ x ∈ s', x.natAbs ≤ Z + 1) ∧ s'.length ≤ 4 * L + 4
/-- after some spots -/
def In1 (S : Sto) (P spots : List Int) (far : Int) (xs : List Int) (δ : Sl) (S2 : Sto) : Prop := ∃ (dn F Pn : List Int) (ws : List D) (o5 : Option D), spots = dn ++ xs ∧ S2 = S ++ .dct (kb F) :: .dct (kb Pn) :: ws ∧ Dcts ws ∧ F.Nodup ∧ (∀ x, x ∈ F ↔ x ∈ dn) ∧ Pn.Nodup ∧ (∀ x, x ∈ Pn ↔ x ∈ pts dn far) ∧ F.length ≤ dn.length ∧ Pn.length ≤ 2 * dn.length + 2 ∧
  δ = [some (.tup (P.map .int)), some (.lst (spots.map .int)), some (.int far), some (.ptr S.length), some (.ptr (S.length + 1)), o5, none, none, none]
/-- after some pairs -/
def In2 (S : Sto) (P spots : List Int) (far : Int) (Z : Nat) (Pn : List Int) (xs : List (Int × Int)) (δ : Sl) (S2 : Sto) : Prop := ∃ (dn : List (Int × Int)) (C F : List Int) (ws : List D) (o5 o7 o8 : Option D), (sortI Pn).zip (sortI Pn).tail = dn ++ xs ∧ S2 = S ++ .dct (kb F) :: .dct (kb Pn) :: ws ∧ Dcts ws ∧ Fnd (Z + 1) P (pts spots far) C F ∧ C.length ≤ dn.length ∧ (∀ s ∈ spots, s ∈ F) ∧
  (∀ q ∈ dn, evI P q.1 ≠ 0 → evI P q.2 ≠ 0 → ¬ (evI P q.1 < 0 ↔ evI P q.2 < 0) → ∃ c ∈ F, q.1 ≤ c ∧ c < q.2 ∧ (evI P c < 0 ↔ evI P q.1 < 0) ∧ ¬ (evI P (c + 1) < 0 ↔ evI P q.1 < 0)) ∧
  δ = [some (.tup (P.map .int)), some (.lst (spots.map .int)), some (.int far), some (.ptr S.length), some (.ptr (S.length + 1)), o5, some (.lst ((sortI Pn).map .int)), o7, o8]
theorem spots_between_spec {P spots : List Int} {far : Int} {Z L : Nat} (hb : Bd P) (hZ : Z + 1 < 2 ^ 900) (hf : far.natAbs ≤ Z) (hs : ∀ x ∈ spots, x.natAbs ≤ Z) (hL : spots.length ≤ L) (hL2 : L ≤ 3000000) (S : Sto) (hS : Sane S) :
    (m_spots_between [.tup (P.map .int), .lst (spots.map .int), .int far] S).post fun d S' => Lev P spots far Z L d ∧ S' = S := by
  have sl : 16000000 ≤ sizeLine := by decide
  refine m_defJQ hS ?_
  show (b_spots_between [some (.tup (P.map .int)), some (.lst (spots.map .int)), some (.int far), none, none, none, none, none, none] S).post _ _ _ _
  unfold b_spots_between
  walk_at "3"
  refine two_kb (a := 0 - far) (b := far) (exact_of (p_bin (p_c (p_var rfl (o_sub ⟨rfl, rfl⟩))))) rfl ?_
  walk_at "3"
  refine .inl ⟨_, rfl, ?_⟩
  rw [List.append_assoc]
  refine s_forT D.int (In1 S P spots far) ?_ ?_ _ _ _ ⟨[], [], insK (insK [] (0 - far)) far, [], none, rfl, rfl, (fun _ h => nomatch h), List.nodup_nil, (fun _ => Iff.rfl), nd_insK (nd_insK List.nodup_nil), (fun x => by rw [mem_two, mem_pts]; simp), Nat.le_refl _, (by have := two_len (0 - far) far; simpa using this), by simp⟩
  · rintro x xs δ S2 ⟨dn, F, Pn, ws, o5, he, rfl, hw, fn, fm, pn, pm, fl, pl, rfl⟩
    have hlen : dn.length + 1 ≤ L := by rw [he, List.length_append, List.length_cons] at hL; omega
    walk_at "3"
    refine ⟨S.length, _, _, rfl, at0, put_kbU x (by omega), ?_⟩
    rw [set0]
    refine s_expr ?_
    refine upd_two (k := S.length + 1) (F := Pn) (a := x) (b := x + 1) rfl at1 rfl (exact_of (p_bin (p_var rfl (p_c (o_add ⟨rfl, rfl⟩))))) (by omega) ?_
    rw [show (S ++ D.dct (kb (insK F x)) :: D.dct (kb Pn) :: ws) ++ [D.dct (kb (insK (insK [] x) (x + 1)))] = S ++ D.dct (kb (insK F x)) :: D.dct (kb Pn) :: (ws ++ [D.dct (kb (insK (insK [] x) (x + 1)))]) by simp, set1]
    refine ⟨dn ++ [x], insK F x, _, _, _, by rw [he, List.append_assoc]; rfl, rfl, dcts_snoc hw, nd_insK fn, fun y => ?_, nd_fold pn, fun y => ?_, ?_, ?_, rfl⟩
    · rw [mem_insK, fm]; simp
    · rw [mem_fold, pm, mem_two, mem_pts, mem_pts]
      simp only [List.mem_append, List.mem_singleton]
      constructor
      · rintro ((a | a | ⟨s, a, b⟩) | a)
        · exact .inl a
        · exact .inr (.inl a)
        · exact .inr (.inr ⟨s, .inl a, b⟩)
        · exact .inr (.inr ⟨x, .inr rfl, a⟩)
      · rintro (a | a | ⟨s, a | a, b⟩)
        · exact .inl (.inl a)
        · exact .inl (.inr (.inl a))
        · exact .inl (.inr (.inr ⟨s, a, b⟩))
        · subst a; exact .inr b
    · have := len_insK F x
      rw [List.length_append]; simp; omega
    · have h1 := len_insK Pn x
      have h2 := len_insK (insK Pn x) (x + 1)
      have h3 : ((insK (insK [] x) (x + 1)).foldl insK Pn).length ≤ Pn.length + 2 := by
        have := two_len x (x + 1)
        have h : ∀ (ms F : List Int), (ms.foldl insK F).length ≤ F.length + ms.length := fun ms => by
          induction ms with
          | nil => exact fun F => Nat.le_refl _
          | cons m r ih => intro F; have := ih (insK F m); have := len_insK F m; show (r.foldl insK (insK F m)).length ≤ _; rw [List.length_cons]; omega
        have := h (insK (insK [] x) (x + 1)) Pn
        omega
      rw [List.length_append]; simp; omega
  · rintro δ S2 ⟨dn, F, Pn, ws, o5, he, rfl, hw, fn, fm, pn, pm, fl, pl, rfl⟩
    rw [List.append_nil] at he
    subst he
    walk_at "3"
    refine p_lift (sort_kb at1) ?_
    walk_at "3"
    refine p_zipA ?_
    walk_at "3"
    refine p_cutP ?_
    walk_at "3"
    refine .inl ⟨_, _, rfl, ?_⟩
    rw [cut_tailP, ← List.map_tail, zip_kb]
    have ptz : ∀ x ∈ pts spots far, x.natAbs ≤ Z + 1 := fun x hx => by
      rcases mem_pts.mp hx with e | e | ⟨s, h1, e | e⟩
      · omega
      · omega
      · have := hs s h1; omega
      · have := hs s h1; omega
    have pE : (sortI Pn).Pairwise (· < ·) := sortI_lt pn
    have zl : ((sortI Pn).zip (sortI Pn).tail).length ≤ 2 * spots.length + 2 := by
      rw [List.length_zip, (sortI_perm Pn).length_eq]
      omega
    refine s_forT (fun q : Int × Int => D.tux [.int q.1, .int q.2]) (In2 S P spots far Z Pn) ?_ ?_ _ _ _ ⟨[], [], F, ws, o5, none, none, rfl, rfl, hw, ⟨fn, fun x hx => .inl (mem_pts.mpr (.inr (.inr ⟨x, (fm x).mp hx, .inl rfl⟩))), (fun _ h => nomatch h)⟩, Nat.le_refl _, (fun s hs => (fm s).mpr hs), (fun _ h => nomatch h), rfl⟩
    · rintro ⟨lo, hi⟩ xs δ S2 ⟨dn, C, F, ws, o5, o7, o8, he, rfl, hw, hF, hC, hk, hp, rfl⟩
      obtain ⟨m1, m2, mlt⟩ := adj_lt (q := (lo, hi)) pE (by rw [he]; exact List.mem_append_right _ List.mem_cons_self)
      have m1 := (pm lo).mp (mem_sortI.mp m1)
      have m2 := (pm hi).mp (mem_sortI.mp m2)
      have z1 := ptz lo m1
      have z2 := ptz hi m2
      have dl : dn.length + 1 ≤ 2 * spots.length + 2 := by rw [he, List.length_append, List.length_cons] at zl; omega
      have hFl := fnd_len hF
      rw [pts_len] at hFl
      have hSa : Sane (S ++ D.dct (kb F) :: D.dct (kb Pn) :: ws) := sane_dcts hS fun w q => by
        rcases List.mem_cons.mp q with rfl | q
        · exact ⟨_, rfl⟩
        rcases List.mem_cons.mp q with rfl | q
        · exact ⟨_, rfl⟩
        exact hw w q
      dsimp only at mlt
      have fin2 : ∀ o5', In2 S P spots far Z Pn xs [some (.tup (P.map .int)), some (.lst (spots.map .int)), some (.int far), some (.ptr S.length), some (.ptr (S.length + 1)), o5', some (.lst ((sortI Pn).map .int)), some (.int lo), some (.int hi)] (S ++ D.dct (kb ((insK (insK [] lo) hi).foldl insK F)) :: D.dct (kb Pn) :: (ws ++ [D.dct (kb (insK (insK [] lo) hi))])) ∨ ¬ (evI P lo = 0 ∨ evI P hi = 0) := fun o5' => by
        by_cases z : evI P lo = 0 ∨ evI P hi = 0
        · refine .inl ⟨dn ++ [(lo, hi)], C, _, _, o5', _, _, by rw [he, List.append_assoc]; rfl, rfl, dcts_snoc hw, fnd_two hF m1 m2, by rw [List.length_append]; omega, fun s hs => mem_fold.mpr (.inl (hk s hs)), fun q hq a b c => ?_, rfl⟩
          rcases List.mem_append.mp hq with hq | hq
          · obtain ⟨c', h1, h2⟩ := hp q hq a b c
            exact ⟨c', mem_fold.mpr (.inl h1), h2⟩
          · rw [List.mem_singleton.mp hq] at a b
            rcases z with z | z
            · exact absurd z a
            · exact absurd z b
        · exact .inr z
      have up : ∀ (δ : Sl) {T : D → Sto → Prop} {B : Sl → Sto → Prop}, δ = [some (.tup (P.map .int)), some (.lst (spots.map .int)), some (.int far), some (.ptr S.length), some (.ptr (S.length + 1)), o5, some (.lst ((sortI Pn).map .int)), some (.int lo), some (.int hi)] → (evI P lo = 0 ∨ evI P hi = 0) →
          (sExpr (rUpd (rVar 3) (rOwn (rDisp [((rVar 7), (rC (.bl true))), ((rVar 8), (rC (.bl true)))]))) δ (S ++ D.dct (kb F) :: D.dct (kb Pn) :: ws)).post (fun δ2 S2 => In2 S P spots far Z Pn xs δ2 S2) T B (fun δ2 S2 => In2 S P spots far Z Pn xs δ2 S2) := fun δ T B e z => by
        subst e
        refine s_expr ?_
        refine upd_two (k := S.length) (F := F) (a := lo) (b := hi) rfl at0 rfl rfl (by omega) ?_
        rw [show (S ++ D.dct (kb F) :: D.dct (kb Pn) :: ws) ++ [D.dct (kb (insK (insK [] lo) hi))] = S ++ D.dct (kb F) :: D.dct (kb Pn) :: (ws ++ [D.dct (kb (insK (insK [] lo) hi))]) by simp, set0]
        exact (fin2 o5).resolve_right fun n => n z
      show (gTup _ (.tux [.int lo, .int hi]) _ _).post _
      walk_at "3"
      refine Res.post.of_eq (poly_at_spec hb (by omega) _ hSa) ?_
      walk_at "3"
      refine ⟨fun k1 => ?_, fun k1 => ?_⟩
      · refine p_true ?_
        exact up _ rfl (.inl (by simpa using k1))
      have k1 : evI P lo ≠ 0 := by simpa using k1
      walk_at "3"
      refine Res.post.of_eq (poly_at_spec hb (by omega) _ hSa) ?_
      walk_at "3"
      refine ⟨fun k2 => ?_, fun k2 => ?_⟩
      · exact up _ rfl (.inr (by simpa using k2))
      have k2 : evI P hi ≠ 0 := by simpa using k2
      walk_at "3"
      refine Res.post.of_eq (poly_at_spec hb (by omega) _ hSa) ?_
      walk_at "3"
      refine Res.post.of_eq (poly_at_spec hb (by omega) _ hSa) ?_
      walk_at "3"
      refine p_lift (neB _ _) ?_
      walk_at "3"
      refine ⟨fun k3 => ?_, fun k3 => ?_⟩
      · have k3 : ¬ (evI P lo < 0 ↔ evI P hi < 0) := by simpa using k3
        walk_at "3"
        refine (crossed_spec hb mlt (by omega) (by omega) (fun e => k3 e.symm) _ hSa).mono fun d S3 ⟨⟨c, e, c1, c2, c3, c4⟩, e2⟩ => ?_
        subst e e2
        refine ⟨S.length, _, _, rfl, at0, put_kbU c (by omega), ?_⟩
        rw [set0]
        refine ⟨dn ++ [(lo, hi)], C ++ [c], _, _, _, _, _, by rw [he, List.append_assoc]; rfl, rfl, hw, ⟨nd_insK hF.nd, fun x hx => ?_, fun x hx => ?_⟩, by rw [List.length_append, List.length_append]; simp; omega, fun s hs => mem_insK.mpr (.inl (hk s hs)), fun q hq a b c' => ?_, rfl⟩
        · rcases mem_insK.mp hx with hx | e
          · rcases hF.sub x hx with q | q
            · exact .inl q
            · exact .inr (List.mem_append_left _ q)
          · rw [e]; exact .inr (List.mem_append_right _ List.mem_cons_self)
        · rcases List.mem_append.mp hx with hx | hx
          · exact hF.z x hx
          · rw [List.mem_singleton.mp hx]; omega
        · rcases List.mem_append.mp hq with hq | hq
          · obtain ⟨c', h1, h2⟩ := hp q hq a b c'
            exact ⟨c', mem_insK.mpr (.inl h1), h2⟩
          · rw [List.mem_singleton.mp hq]
            exact ⟨c, mem_insK.mpr (.inr rfl), c1, c2, c3, c4⟩
      · have k3 : evI P lo < 0 ↔ evI P hi < 0 := by simpa using k3
        walk_at "3"
        refine ⟨dn ++ [(lo, hi)], C, _, _, _, _, _, by rw [he, List.append_assoc]; rfl, rfl, hw, hF, by rw [List.length_append]; omega, hk, fun q hq a b c' => ?_, rfl⟩
        rcases List.mem_append.mp hq with hq | hq
        · exact hp q hq a b c'
        · rw [List.mem_singleton.mp hq] at c'
          exact absurd k3 c'
    · rintro δ S2 ⟨dn, C, F, ws, o5, o7, o8, he, rfl, hw, hF, hC, hk, hp, rfl⟩
      rw [List.append_nil] at he
      have hFl := fnd_len hF
      rw [pts_len] at hFl
      walk_at "3"
      refine p_lift (sort_kb at0) ?_
      walk_at "3"
      refine ⟨closed_ints' _, List.take_left' rfl, ⟨sortI F, rfl, ⟨fun s h => mem_sortI.mpr (hk s h), fun low high h1 h2 hlt hn a b c => ?_⟩, fun x hx => ?_, ?_⟩, rfl⟩
      · have hq := adj pE (mem_sortI.mpr ((pm low).mpr h1)) (mem_sortI.mpr ((pm high).mpr h2)) hlt fun x hx => hn x ((pm x).mp (mem_sortI.mp hx))
        rw [he] at hq
        obtain ⟨c', c1, c2⟩ := hp _ hq a b c
        exact ⟨c', mem_sortI.mpr c1, c2⟩
      · rcases hF.sub x (mem_sortI.mp hx) with q | q
        · exact ptz x q
        · exact hF.z x q
      · rw [(sortI_perm F).length_eq, ]
        rw [he] at zl
        omega
end DL

set_option Elab.async false
set_option linter.all false
set_option maxRecDepth 100000
set_option maxHeartbeats 4000000
set_option autoImplicit false
/-! k30: the spots of a poly. -/
namespace DL
open PySem L2
open Emb
local macro_rules | `(tactic| walk_at "1") => `(tactic| with_reducible first
  | refine s_seq ?_ | refine s_asg ?_ | refine s_ret ?_ | refine s_if ?_ | refine s_expr ?_ | refine s_next ?_ | refine s_brk ?_ | refine s_cont ?_ | refine s_for ?_ | refine s_while ?_
  | refine p_c ?_ | refine p_bin ?_ | refine p_as ?_ | refine p_cons ?_ | refine p_nil ?_ | refine p_un ?_ | refine p_call ?_ | refine p_if ?_ | refine p_own ?_
  | refine p_keep ?_ | refine p_tru ?_ | refine p_and ?_ | refine p_or ?_ | refine p_not ?_ | refine p_val ?_ | refine p_rand ?_ | refine p_ror ?_ | refine p_rnot ?_ | refine p_chain ?_ | refine p_bif ?_
  | refine o_add ?_ | refine o_sub ?_ | refine o_ltU ?_ | refine o_leU ?_ | refine o_gtU ?_ | refine o_geU ?_ | refine o_neg ?_ | refine o_eqI ?_ | refine o_neI ?_ | refine o_abs ?_ | refine o_tru ?_ | refine p_true ?_ | refine p_false ?_
  | refine o_lenT ?_ | refine o_lenL ?_ | refine o_ix0 ?_ | refine o_ix1 ?_ | refine o_ix2 ?_ | refine o_ix0L ?_ | refine o_ix1L ?_ | refine o_ix2L ?_
  | refine s_par ?_ | refine p_yes ?_ | refine p_seq ?_ | refine s_gnil ?_ | refine s_gcons ?_ | refine s_gtux ?_ | refine s_gtupl ?_ | refine p_onone ?_ | refine p_osome ?_ | refine p_get2 ?_ | refine s_putU ?_ | refine p_sortIt ?_)
local macro_rules | `(tactic| walk_at "2") => `(tactic| first
  | walk_at "1"
  | (with_reducible refine p_var2 ?_)
  | ((with_reducible refine s_name ?_ ?_); (· exact Nat.le_of_ble_eq_true rfl); dsimp only [List.set_cons_zero, List.set_cons_succ])
  | (with_reducible refine p_tup ?_) | (with_reducible refine p_lst ?_) | ((with_reducible refine ⟨?_, ?_⟩); (· exact Nat.le_of_ble_eq_true rfl))
  | ((with_reducible refine p_ex2 (x := ?_) (y := ?_) ?_ ?_); rotate_left; rotate_left; (· rfl); refine ⟨?_, ?_, ?_⟩; (· exact Nat.le_of_ble_eq_true rfl); (· exact Nat.le_of_ble_eq_true rfl); dsimp only [List.set_cons_zero, List.set_cons_succ])
  | ((with_reducible refine p_isT ?_ ?_); (· rfl)) | ((with_reducible refine p_isF ?_ ?_); (· rfl))
  | ((with_reducible refine p_ex (x := ?_) ?_ ?_); rotate_left; (· rfl)))
local macro_rules | `(tactic| walk_at "3") => `(tactic| repeat walk_at "2")
open PR
theorem atI_last {xs : List D} {d : D} : atI (xs ++ [d]) (-1) = some d := by
  unfold atI ixN
  rw [if_neg (by omega)]
  have e : (xs ++ [d]).length = xs.length + 1 := by simp
  rw [e]
  have e2 : ((xs.length + 1 : Nat) : Int) = (xs.length : Int) + 1 := by omega
  rw [if_pos (by omega), show (-1 + ((xs.length + 1 : Nat) : Int)).toNat = xs.length by omega]
  simp
theorem fm_all {A B : Type} {f : A → Option B} {g : A → B} : ∀ {l : List A}, (∀ a ∈ l, f a = some (g a)) → l.filterMap f = l.map g
  | [], _ => rfl
  | a :: r, h => by rw [List.filterMap_cons_some (h a List.mem_cons_self), fm_all fun b hb => h b (List.mem_cons_of_mem _ hb)]; rfl
/-- the slopes of a poly -/
def slN : Nat → List Int → List Int
  | 0, P => P
  | k + 1, P => slope (slN k P)
theorem slN_len : ∀ (k : Nat) (P : List Int), (slN k P).length = P.length - k
  | 0, P => rfl
  | k + 1, P => by show (slope (slN k P)).length = _; rw [len_slope, slN_len k P]; omega
theorem dZ_bd {B : Nat} : ∀ (P : List Int) (k : Nat), k + P.length ≤ 16 → (∀ c ∈ P, c.natAbs < B) → ∀ c ∈ dZ k P, c.natAbs < 2 ^ 4 * B
  | [], k, _, _, c, h => nomatch h
  | a :: r, k, hl, hb, c, h => by
    rw [List.length_cons] at hl
    have hs : c ∈ (k : Int) * a :: dZ (k + 1) r := h
    rcases List.mem_cons.mp hs with e | h
    · subst e
      have := hb a List.mem_cons_self
      rw [Int.natAbs_mul]
      have h1 : ((k : Int)).natAbs ≤ 15 := by omega
      have h2 : ((k : Int)).natAbs * a.natAbs ≤ 15 * a.natAbs := Nat.mul_le_mul_right _ h1
      omega
    · exact dZ_bd r (k + 1) (by omega) (fun c hc => hb c (List.mem_cons_of_mem _ hc)) c h
theorem slN_bd {P : List Int} (hl : P.length ≤ 12) (hb : ∀ c ∈ P, c.natAbs < 2 ^ 800) : ∀ k : Nat, ∀ c ∈ slN k P, c.natAbs < 2 ^ (800 + 4 * k)
  | 0 => hb
  | k + 1 => fun c hc => by
    have hc : c ∈ dZ 1 (slN k P).tail := hc
    have := dZ_bd (slN k P).tail 1 (by rw [List.length_tail, slN_len]; omega) (fun x hx => slN_bd hl hb k x (List.mem_of_mem_tail hx)) c hc
    rw [show 800 + 4 * (k + 1) = 4 + (800 + 4 * k) by omega, Nat.pow_add]
    exact this
theorem slN_Bd {P : List Int} (hl : P.length ≤ 12) (hb : ∀ c ∈ P, c.natAbs < 2 ^ 800) {k : Nat} (hk : k ≤ 12) : Bd (slN k P) := ⟨by rw [slN_len]; omega, fun c hc => Nat.lt_of_lt_of_le (slN_bd hl hb k c hc) (Nat.pow_le_pow_right (by decide) (by omega))⟩
theorem slN_lead {P : List Int} (h : 0 < lead (cs P)) : ∀ k : Nat, k + 1 ≤ P.length → 0 < lead (cs (slN k P))
  | 0, _ => h
  | k + 1, hk => lead_slope (by rw [slN_len]; omega) (slN_lead h k (by omega))
def LLn : Nat → Nat
  | 0 => 1
  | m + 1 => 4 * LLn m + 4
theorem LLn_le : ∀ m : Fin 11, LLn m.val ≤ 3000000 := by decide
def slD (k : Nat) (P : List Int) : List D := (List.range k).map fun i => .tup ((slN i P).map .int)
theorem slD_succ (k : Nat) (P : List Int) : slD (k + 1) P = slD k P ++ [.tup ((slN k P).map .int)] := by unfold slD; rw [List.range_succ, List.map_append]; rfl
theorem slD_len (k : Nat) (P : List Int) : (slD k P).length = k := by unfold slD; rw [List.length_map, List.length_range]
theorem slD_closed (n : Nat) (P : List Int) : ∀ k : Nat, D.closed n (.lst (slD k P)) = true
  | 0 => rfl
  | k + 1 => by
    have ih := slD_closed n P k
    rw [slD_succ]
    unfold D.closed at ih ⊢
    refine closedL_app ih ?_
    show (D.closed n (.tup ((slN k P).map .int)) && true) = true
    rw [show D.closed n (.tup ((slN k P).map .int)) = true from closed_ints' _]
    rfl
theorem idx_rev : ∀ k : Fin 13, idxS k.val none none (-1) = (List.range k.val).reverse := by decide
theorem step_rev {k : Nat} (hk : k ≤ 12) (P : List Int) : stepS (slD k P) none none (-1) = (List.range k).reverse.map fun i => D.tup ((slN i P).map .int) := by
  unfold stepS
  rw [slD_len, idx_rev ⟨k, by omega⟩]
  show (List.range k).reverse.filterMap (fun i => (slD k P)[i]?) = _
  refine fm_all fun i hi => ?_
  have hi := List.mem_range.mp (List.mem_reverse.mp hi)
  unfold slD
  rw [List.getElem?_map, List.getElem?_range hi]
  rfl
def Spo (P : List Int) (far : Int) (d : D) : Prop := ∃ s, d = .lst (s.map .int) ∧ Spots far P s ∧ (∀ x ∈ s, x.natAbs ≤ 2 ^ 860 + 10) ∧ s.length ≤ 3000000
theorem line_is {p : List Int} (h2 : p.length = 2) (hl : 0 < lead (cs p)) : ∃ a0 a1 : Int, p = [a0, a1] ∧ 0 < a1 := by
  rcases p with _ | ⟨a, _ | ⟨b, _ | ⟨c, r⟩⟩⟩
  · simp at h2
  · simp at h2
  · have h : (0 : Rat) < (b : Rat) := hl
    exact ⟨a, b, rfl, by exact_mod_cast h⟩
  · simp at h2
theorem p_stepL {i k : Nat} {δ : Sl} {S : Sto} {xs : List D} {Q : D → Sto → Prop} (hi : δ[i]? = some (some (.ptr k))) (hk : S[k]? = some (.lst xs)) (hl : (stepS xs none none (-1)).length ≤ sizeLine) (h : Q (.lst (stepS xs none none (-1))) S) : (rStep (rVar i) oNone oNone (oSome (rUn gNeg (rC (.int 1)))) δ S).post Q := by
  refine p_bind (p_var hi ?_)
  show Res.post (match deref S (.ptr k) with
    | .lst xs => if (-1 : Int) ≠ 0 ∧ (stepS xs none none (-1)).length ≤ sizeLine then Res.ok (D.lst (stepS xs none none (-1))) S else .stuck
    | .tup xs => if (none : Option Int) = none ∧ (none : Option Int) = none ∧ (-1 : Int) = -1 then .ok (.tup xs.reverse) S else .stuck
    | _ => .stuck) Q
  rw [deref_at hk]
  dsimp only
  rw [if_pos ⟨by decide, hl⟩]
  exact h
theorem spots_of_spec {P : List Int} {far : Int} (h2 : 2 ≤ P.length) (h12 : P.length ≤ 12) (hb : ∀ c ∈ P, c.natAbs < 2 ^ 800) (hl : 0 < lead (cs P)) (hf : far.natAbs ≤ 2 ^ 860) (S : Sto) (hS : Sane S) :
    (m_spots_of [.tup (P.map .int), .int far] S).post fun d S' => Spo P far d ∧ S' = S := by
  have sl : 16000000 ≤ sizeLine := by decide
  refine m_defJQ hS ?_
  show (b_spots_of [some (.tup (P.map .int)), some (.int far), none, none, none, none] S).post _ _ _ _
  unfold b_spots_of
  walk_at "3"
  refine s_whileL (fun n δ S2 => ∃ k : Nat, k + 2 ≤ P.length ∧ n = P.length - k ∧ S2 = S ++ [.lst (slD (k + 1) P)] ∧ δ = [some (.tup (P.map .int)), some (.int far), some (.ptr S.length), none, none, none]) ?_ P.length _ _ _ ⟨0, h2, rfl, rfl, rfl⟩ ?_
  · rintro n δ S2 ⟨k, hk, rfl, rfl, rfl⟩
    have hSa : Sane (S ++ [D.lst (slD (k + 1) P)]) := sane_app hS (slD_closed _ _ _)
    have gl : ∀ {Q : D → Sto → Prop}, Q (.tup ((slN k P).map .int)) (S ++ [D.lst (slD (k + 1) P)]) → (Res.lift (gIx (S ++ [D.lst (slD (k + 1) P)]) (.ptr S.length) (.int (-1))) (S ++ [D.lst (slD (k + 1) P)])).post Q := fun q => p_lift (by
      unfold gIx
      rw [deref_app]
      dsimp only
      rw [slD_succ]
      exact atI_last) q
    walk_at "3"
    refine gl ?_
    walk_at "3"
    rw [List.length_map, slN_len]
    refine ⟨fun q => ?_, fun q => ?_⟩
    · have q : (2 : Int) < ((P.length - k : Nat) : Int) := of_decide_eq_true q
      refine ⟨P.length - (k + 1), by omega, ?_⟩
      refine s_expr ?_
      refine p_append2 rfl get_app ?_
      walk_at "3"
      refine gl ?_
      walk_at "3"
      refine Res.post.of_eq (slope_of_spec (slN_Bd h12 hb (by omega)) _ hSa) ?_
      refine ⟨_, get_app, by rw [slD_len]; omega, ?_⟩
      rw [set_app]
      exact ⟨k + 1, by omega, rfl, by rw [slD_succ (k + 1)]; rfl, rfl⟩
    · have q : ¬ (2 : Int) < ((P.length - k : Nat) : Int) := of_decide_eq_false q
      have hk2 : k + 2 = P.length := by omega
      obtain ⟨a0, a1, eP, ha⟩ := line_is (p := slN k P) (by rw [slN_len]; omega) (slN_lead hl k (by omega))
      have ha0 : a0.natAbs < 2 ^ 860 := Nat.lt_of_lt_of_le (slN_bd h12 hb k a0 (by rw [eP]; exact List.mem_cons_self)) (Nat.pow_le_pow_right (by decide) (by omega))
      have ha1 : a1.natAbs < 2 ^ 860 := Nat.lt_of_lt_of_le (slN_bd h12 hb k a1 (by rw [eP]; exact List.mem_cons_of_mem _ List.mem_cons_self)) (Nat.pow_le_pow_right (by decide) (by omega))
      refine s_seq ?_
      refine s_asg ?_
      refine p_meth ?_
      walk_at "3"
      refine ⟨by unfold isTy; rw [deref_app]; rfl, ?_⟩
      refine p_nil ?_
      refine ⟨.tup ((slN k P).map .int), S ++ [.lst (slD k P)], ?_, ?_⟩
      · unfold mPop
        dsimp only
        rw [get_app]
        dsimp only
        rw [slD_len, slD_succ, show k + 1 - 1 = k from rfl, List.getElem?_append_right (by rw [slD_len]; exact Nat.le_refl _), slD_len, Nat.sub_self, List.dropLast_concat, set_app]
        rfl
      rw [eP]
      walk_at "3"
      refine o_div ⟨by omega, (Nat.log2_lt (by omega)).mpr (Nat.lt_of_lt_of_le ha1 (Nat.pow_le_pow_right (by decide) (by decide)))⟩ ?_
      rw [Int.fdiv_eq_ediv_of_nonneg _ (Int.le_of_lt ha)]
      walk_at "3"
      refine p_stepL (xs := slD k P) rfl get_app (by rw [step_rev (by omega), List.length_map, List.length_reverse, List.length_range]; omega) ?_
      rw [step_rev (by omega)]
      refine .inl ⟨_, rfl, ?_⟩
      refine s_forT (fun i : Nat => D.tup ((slN i P).map .int)) (fun xs δ S2 => ∃ (j : Nat) (s : List Int) (o5 : Option D), xs = (List.range j).reverse ∧ j ≤ k ∧ Spots far (slN j P) s ∧ (∀ x ∈ s, x.natAbs ≤ 2 ^ 860 + (k - j)) ∧ s.length ≤ LLn (k - j) ∧ S2 = S ++ [.lst (slD k P)] ∧ δ = [some (.tup (P.map .int)), some (.int far), some (.ptr S.length), some (.tup [.int a0, .int a1]), some (.lst (s.map .int)), o5]) ?_ ?_ _ _ _ ⟨k, [(0 - a0) / a1], none, rfl, Nat.le_refl _, by rw [eP]; exact .line ha, fun x hx => ?_, by rw [Nat.sub_self]; exact Nat.le_refl _, rfl, rfl⟩
      · rintro i xs δ S2 ⟨j, s, o5, he, hj, hs, hz, hL, rfl, rfl⟩
        rcases j with _ | j
        · cases he
        rw [List.range_succ, List.reverse_append] at he
        obtain ⟨rfl, rfl⟩ : i = j ∧ xs = (List.range j).reverse := by simpa using he
        have hSa : Sane (S ++ [D.lst (slD k P)]) := sane_app hS (slD_closed _ _ _)
        have hLL := LLn_le ⟨k - (i + 1), by omega⟩
        walk_at "3"
        refine (spots_between_spec (Z := 2 ^ 860 + (k - (i + 1))) (L := LLn (k - (i + 1))) (slN_Bd h12 hb (by omega)) (by have : (2 : Nat) ^ 860 + 20 < 2 ^ 900 := by decide
                                                                                                                          omega) (by omega) hz hL hLL _ hSa).mono fun d S3 ⟨⟨s', e, st, z', l'⟩, e2⟩ => ?_
        subst e e2
        walk_at "3"
        refine ⟨i, s', _, rfl, by omega, .step (by rw [slN_len]; omega) hs st, fun x hx => by have := z' x hx; omega, ?_, rfl, rfl⟩
        rw [show k - i = k - (i + 1) + 1 by omega]
        exact l'
      · rintro δ S2 ⟨j, s, o5, he, hj, hs, hz, hL, rfl, rfl⟩
        have j0 : j = 0 := by
          have := congrArg List.length he
          simpa using this.symm
        subst j0
        have hLL := LLn_le ⟨k - 0, by omega⟩
        walk_at "3"
        exact ⟨closed_ints' _, take_app, ⟨s, rfl, hs, fun x hx => by have := hz x hx; omega, Nat.le_trans hL hLL⟩, rfl⟩
      · rw [List.mem_singleton.mp hx]
        have h1 : ((0 - a0) / a1).natAbs ≤ (0 - a0).natAbs := Int.natAbs_ediv_le_natAbs _ _
        omega
  · show P.length < 100
    omega
end DL

set_option Elab.async false
set_option linter.all false
set_option maxRecDepth 100000
set_option maxHeartbeats 4000000
set_option autoImplicit false
/-! k30: whole_roots. -/
namespace DL
open PySem L2
open Emb
local macro_rules | `(tactic| walk_at "1") => `(tactic| with_reducible first
  | refine s_seq ?_ | refine s_asg ?_ | refine s_ret ?_ | refine s_if ?_ | refine s_expr ?_ | refine s_next ?_ | refine s_brk ?_ | refine s_cont ?_ | refine s_for ?_ | refine s_while ?_
  | refine p_c ?_ | refine p_bin ?_ | refine p_as ?_ | refine p_cons ?_ | refine p_nil ?_ | refine p_un ?_ | refine p_call ?_ | refine p_if ?_ | refine p_own ?_
  | refine p_keep ?_ | refine p_tru ?_ | refine p_and ?_ | refine p_or ?_ | refine p_not ?_ | refine p_val ?_ | refine p_rand ?_ | refine p_ror ?_ | refine p_rnot ?_ | refine p_chain ?_ | refine p_bif ?_
  | refine o_add ?_ | refine o_sub ?_ | refine o_ltU ?_ | refine o_leU ?_ | refine o_gtU ?_ | refine o_geU ?_ | refine o_neg ?_ | refine o_eqI ?_ | refine o_neI ?_ | refine o_abs ?_ | refine o_tru ?_ | refine p_true ?_ | refine p_false ?_
  | refine o_lenT ?_ | refine o_lenL ?_ | refine o_ix0 ?_ | refine o_ix1 ?_ | refine o_ix2 ?_ | refine o_ix0L ?_ | refine o_ix1L ?_ | refine o_ix2L ?_
  | refine s_par ?_ | refine p_yes ?_ | refine p_seq ?_ | refine s_gnil ?_ | refine s_gcons ?_ | refine s_gtux ?_ | refine s_gtupl ?_ | refine p_onone ?_ | refine p_osome ?_ | refine p_get2 ?_ | refine s_putU ?_ | refine p_sortIt ?_)
local macro_rules | `(tactic| walk_at "2") => `(tactic| first
  | walk_at "1"
  | (with_reducible refine p_var2 ?_)
  | ((with_reducible refine s_name ?_ ?_); (· exact Nat.le_of_ble_eq_true rfl); dsimp only [List.set_cons_zero, List.set_cons_succ])
  | (with_reducible refine p_tup ?_) | (with_reducible refine p_lst ?_) | ((with_reducible refine ⟨?_, ?_⟩); (· exact Nat.le_of_ble_eq_true rfl))
  | ((with_reducible refine p_ex2 (x := ?_) (y := ?_) ?_ ?_); rotate_left; rotate_left; (· rfl); refine ⟨?_, ?_, ?_⟩; (· exact Nat.le_of_ble_eq_true rfl); (· exact Nat.le_of_ble_eq_true rfl); dsimp only [List.set_cons_zero, List.set_cons_succ])
  | ((with_reducible refine p_isT ?_ ?_); (· rfl)) | ((with_reducible refine p_isF ?_ ?_); (· rfl))
  | ((with_reducible refine p_ex (x := ?_) ?_ ?_); rotate_left; (· rfl)))
local macro_rules | `(tactic| walk_at "3") => `(tactic| repeat walk_at "2")
open PR
def smA : List Int → Nat
  | [] => 0
  | c :: r => c.natAbs + smA r
theorem smA_mem : ∀ {P : List Int} {c : Int}, c ∈ P → c.natAbs ≤ smA P
  | a :: r, c, h => by
    rcases List.mem_cons.mp h with rfl | h
    · exact Nat.le_add_right _ _
    · exact Nat.le_trans (smA_mem h) (Nat.le_add_left _ _)
theorem smA_ml : ∀ (q : List Int) (prev r : Int), smA (ml prev r q) ≤ prev.natAbs + (1 + r.natAbs) * smA q
  | [], prev, r => by show prev.natAbs + 0 ≤ _; omega
  | c :: q, prev, r => by
    have ih := smA_ml q c r
    show (prev - r * c).natAbs + smA (ml c r q) ≤ prev.natAbs + (1 + r.natAbs) * (c.natAbs + smA q)
    have h1 : (prev - r * c).natAbs ≤ prev.natAbs + r.natAbs * c.natAbs := by rw [← Int.natAbs_mul]; exact Int.natAbs_sub_le _ _
    rw [Nat.mul_add, Nat.add_mul 1, Nat.one_mul]
    omega
theorem smA_mulLin (r : Int) (q : List Int) : smA (mulLin r q) ≤ (1 + r.natAbs) * smA q := by
  have := smA_ml q 0 r
  simpa [mulLin] using this
theorem lead_ml : ∀ (q : List Int) (c prev r : Int), lead (cs (ml prev r (c :: q))) = lead (cs (c :: q))
  | [], c, prev, r => rfl
  | d :: q, c, prev, r => lead_ml q d c r
/-- factors without whole roots -/
structure Rst (K : List Int) : Prop where
  nz : ∀ z, evI K z ≠ 0
  len : K.length ≤ 7
  sm : smA K ≤ 2 ^ 272
  ld : 0 < lead (cs K)
structure Rts (R : List Int) : Prop where
  len : R.length ≤ 5
  sz : ∀ r ∈ R, 1 + r.natAbs ≤ 2 ^ 104
theorem rst_pos {K : List Int} (h : Rst K) : 1 ≤ K.length := by
  rcases K with _ | ⟨c, r⟩
  · exact absurd rfl (h.nz 0)
  · simp
theorem can_sm {K : List Int} (hK : Rst K) : ∀ R : List Int, (∀ r ∈ R, 1 + r.natAbs ≤ 2 ^ 104) → smA (can K R) ≤ 2 ^ (104 * R.length + 272)
  | [], _ => hK.sm
  | r :: R, h => by
    show smA (mulLin r (can K R)) ≤ _
    refine Nat.le_trans (smA_mulLin _ _) (Nat.le_trans (Nat.mul_le_mul (h r List.mem_cons_self) (can_sm hK R fun x hx => h x (List.mem_cons_of_mem _ hx))) ?_)
    rw [← Nat.pow_add, List.length_cons]
    exact Nat.pow_le_pow_right (by decide) (by omega)
theorem can_b {K R : List Int} (hK : Rst K) (hR : Rts R) : ∀ c ∈ can K R, c.natAbs < 2 ^ 800 := fun c hc => by
  refine Nat.lt_of_le_of_lt (Nat.le_trans (smA_mem hc) (can_sm hK R hR.sz)) (Nat.pow_lt_pow_right (by decide) ?_)
  have := hR.len
  omega
theorem can_len {K R : List Int} (hK : Rst K) (hR : Rts R) : (can K R).length ≤ 12 := by
  rw [len_can]
  have := hK.len
  have := hR.len
  omega
theorem can_Bd {K R : List Int} (hK : Rst K) (hR : Rts R) : Bd (can K R) := ⟨can_len hK hR, fun c hc => Nat.lt_trans (can_b hK hR c hc) (Nat.pow_lt_pow_right (by decide) (by decide))⟩
theorem can_lead {K : List Int} (hK : Rst K) : ∀ R : List Int, 0 < lead (cs (can K R))
  | [] => hK.ld
  | r :: R => by
    have ih := can_lead hK R
    have hp : 1 ≤ (can K R).length := by rw [len_can]; have := rst_pos hK; omega
    show 0 < lead (cs (ml 0 r (can K R)))
    rcases h : can K R with _ | ⟨c, q⟩
    · rw [h] at hp; simp at hp
    · rw [h] at ih
      rw [lead_ml]; exact ih
def rootsOf (R : List Int) : List Int := sortI (R.foldl insK [])
def outP (R l : List Int) : List (Int × Int) := l.map fun x => (x, (R.count x : Int))
def hit (R : List Int) (x : Int) : Bool := decide (0 < R.count x)
theorem out_all {R E : List Int} (hE : E.Pairwise (· < ·)) (hm : ∀ x ∈ R, x ∈ E) : E.filter (hit R) = rootsOf R := by
  refine sortedI_is ?_ ((hE.filter _).imp fun h => Int.le_of_lt h)
  refine (List.perm_ext_iff_of_nodup ((hE.imp fun h => Int.ne_of_lt h).filter _) (nd_fold List.nodup_nil)).mpr fun x => ?_
  rw [List.mem_filter, mem_fold]
  unfold hit
  rw [decide_eq_true_iff, List.count_pos_iff]
  constructor
  · exact fun h => .inr h.2
  · rintro (h | h)
    · nomatch h
    · exact ⟨hm x h, h⟩
/-- after some spots -/
def Ks1 (S : Sto) (K R : List Int) (far : Int) (s xs : List Int) (δ : Sl) (S2 : Sto) : Prop := ∃ (dn Ks : List Int) (ws : List D) (o3 : Option D), s = dn ++ xs ∧ S2 = S ++ .dct (kb Ks) :: ws ∧ Dcts ws ∧ Ks.Nodup ∧ (∀ x, x ∈ Ks ↔ ∃ y ∈ dn, x = y ∨ x = y + 1) ∧ Ks.length ≤ 2 * dn.length ∧
  δ = [some (.tup ((can K R).map .int)), some (.int far), some (.ptr S.length), o3, none, none, none, none]
/-- after some roots -/
def Ks2 (S1 : Sto) (p : Nat) (K R : List Int) (far : Int) (E xs : List Int) (δ : Sl) (S2 : Sto) : Prop := ∃ (dn R1 : List Int) (o3 o5 o6 : Option D), E = dn ++ xs ∧ Rts R1 ∧ (∀ z, R1.count z = if z ∈ dn then 0 else R.count z) ∧ S2 = S1 ++ [.lst ((outP R (dn.filter (hit R))).map toD)] ∧
  δ = [some (.tup ((can K R1).map .int)), some (.int far), some (.ptr p), o3, some (.ptr S1.length), o5, o6, none]
theorem max_ge {ns : List Int} {m : Int} (h : maxI ns = some m) : ∀ x ∈ ns, x ≤ m := by
  rcases ns with _ | ⟨i, r⟩
  · nomatch h
  · have e : r.foldl max i = m := Option.some.inj h
    have q := (foldl_max r i).2
    intro x hx
    rw [← e]
    rcases List.mem_cons.mp hx with rfl | hx
    · exact q.1
    · exact q.2 x hx
theorem out_closed (n : Nat) (l : List (Int × Int)) : D.closed n (.lst (l.map toD)) = true := by unfold D.closed; exact emb_closed _ _
theorem ml_cons (r : Int) (q : List Int) : ∃ c P, mulLin r q = c :: P := by
  cases q with
  | nil => exact ⟨_, _, rfl⟩
  | cons c q => exact ⟨_, _, rfl⟩
theorem whole_roots_spec {K R : List Int} (hK : Rst K) (hR : Rts R) (h2 : 2 ≤ K.length + R.length) (S : Sto) (hS : Sane S) :
    m_whole_roots [.tup ((can K R).map .int)] S = .ok (.tup ((outP R (rootsOf R)).map toD)) S := by
  have sl : 16000000 ≤ sizeLine := by decide
  have hB := can_Bd hK hR
  have hb := can_b hK hR
  have hlen : (can K R).length = K.length + R.length := len_can K R
  have h12 := can_len hK hR
  refine m_defJ hS (by unfold D.closed; exact emb_closed _ _) ?_
  show (b_whole_roots [some (.tup ((can K R).map .int)), none, none, none, none, none, none, none] S).post _ _ _ _
  unfold b_whole_roots
  walk_at "3"
  refine p_lc ?_
  refine p_seq ?_
  walk_at "3"
  refine .inr (.inl ⟨_, rfl, ?_⟩)
  dsimp only [wipeD, List.set_cons_zero, List.set_cons_succ]
  refine Res.post.of_eq (lcTm (xs := can K R) D.int D.int (fun c => (c.natAbs : Int)) fun c hc => ⟨_, rfl, ?_⟩) ⟨by rw [List.length_map, List.length_map]; omega, ?_⟩
  · refine exact_of ?_
    walk_at "3"
    exact ⟨rfl, rfl⟩
  walk_at "3"
  obtain ⟨m, hm, hm2⟩ := maxI_mem (ns := (can K R).map fun c => (c.natAbs : Int)) (fun e => by
    have := congrArg List.length e
    rw [List.length_map, hlen] at this
    simp only [List.length_nil] at this
    omega)
  refine o_maxL hm ?_
  walk_at "3"
  obtain ⟨c0, hc0, hc1⟩ := List.mem_map.mp hm2
  have hmx := max_ge hm
  have m0 : 0 ≤ m := by omega
  have mB : m.natAbs < 2 ^ 800 := by have := hb c0 hc0; omega
  have p86 : (2 : Nat) ^ 800 < 2 ^ 860 := Nat.pow_lt_pow_right (by decide) (by decide)
  have p90 : (2 : Nat) ^ 860 + 20 < 2 ^ 900 := by decide
  generalize hfar : (1 : Int) + m = far
  have rootsIn : ∀ r ∈ R, -far < r ∧ r < far := fun r hr => by
    have ev := (can_root hK.nz (R := R)).mpr hr
    have nz : ∃ c ∈ can K R, c ≠ 0 := by
      refine Classical.byContradiction fun h => ?_
      have hz : ∀ c ∈ can K R, c = 0 := fun c hc => Classical.byContradiction fun q => h ⟨c, hc, q⟩
      have : ∀ (P : List Int), (∀ c ∈ P, c = 0) → ∀ z, evI P z = 0 := fun P => by
        induction P with
        | nil => exact fun _ _ => rfl
        | cons c t ih =>
          intro h z
          show c + z * evI t z = 0
          rw [h c List.mem_cons_self, ih (fun x hx => h x (List.mem_cons_of_mem _ hx)), Int.mul_zero]
          rfl
      have hl := can_lead hK R
      have e0 : ∀ (P : List Int), (∀ c ∈ P, c = 0) → lead (cs P) = 0 := fun P => by
        induction P with
        | nil => exact fun _ => rfl
        | cons c t ih =>
          intro h
          rcases t with _ | ⟨d, t⟩
          · show (c : Rat) = 0
            rw [h c List.mem_cons_self]; rfl
          · exact ih fun x hx => h x (List.mem_cons_of_mem _ hx)
      rw [e0 _ hz] at hl
      exact absurd hl (by decide)
    rcases root_le ev nz with e | ⟨c, hc, hle⟩
    · omega
    · have := hmx (c.natAbs : Int) (List.mem_map_of_mem hc)
      omega
  have hf : far.natAbs ≤ 2 ^ 860 := by omega
  have hSa : Sane (S ++ [D.dct []]) := sane_app hS rfl
  refine (spots_of_spec (by omega) h12 hb (can_lead hK R) hf _ hSa).mono fun d S3 ⟨⟨s, e, hs, hz, hsl⟩, e2⟩ => ?_
  subst e e2
  refine .inl ⟨_, rfl, ?_⟩
  have ok := spots_ok hs h12 (can_lead hK R)
  refine s_forT D.int (Ks1 S K R far s) ?_ ?_ _ _ _ ⟨[], [], [], none, rfl, rfl, (fun _ h => nomatch h), List.nodup_nil, (fun x => by simp), Nat.le_refl _, rfl⟩
  · rintro x xs δ S2 ⟨dn, Ks, ws, o3, he, rfl, hw, kn, km, kl, rfl⟩
    have hl : dn.length + 1 ≤ 3000000 := by rw [he, List.length_append, List.length_cons] at hsl; omega
    walk_at "3"
    refine upd_two (k := S.length) (F := Ks) (a := x) (b := x + 1) rfl at0 rfl (exact_of (p_bin (p_var rfl (p_c (o_add ⟨rfl, rfl⟩))))) (by omega) ?_
    rw [show (S ++ D.dct (kb Ks) :: ws) ++ [D.dct (kb (insK (insK [] x) (x + 1)))] = S ++ D.dct (kb Ks) :: (ws ++ [D.dct (kb (insK (insK [] x) (x + 1)))]) by simp, set0]
    refine ⟨dn ++ [x], _, _, _, by rw [he, List.append_assoc]; rfl, rfl, dcts_snoc hw, nd_fold kn, fun y => ?_, ?_, rfl⟩
    · rw [mem_fold, km, mem_two]
      simp only [List.mem_append, List.mem_singleton]
      constructor
      · rintro (⟨s, a, b⟩ | a)
        · exact ⟨s, .inl a, b⟩
        · exact ⟨x, .inr rfl, a⟩
      · rintro ⟨s, a | a, b⟩
        · exact .inl ⟨s, a, b⟩
        · subst a; exact .inr b
    · have := two_len x (x + 1)
      have h : ∀ (ms F : List Int), (ms.foldl insK F).length ≤ F.length + ms.length := fun ms => by
        induction ms with
        | nil => exact fun F => Nat.le_refl _
        | cons m r ih => intro F; have := ih (insK F m); have := len_insK F m; show (r.foldl insK (insK F m)).length ≤ _; rw [List.length_cons]; omega
      have := h (insK (insK [] x) (x + 1)) Ks
      rw [List.length_append]; simp; omega
  rintro δ S2 ⟨dn, Ks, ws, o3, he, rfl, hw, kn, km, kl, rfl⟩
  rw [List.append_nil] at he
  subst he
  have hS1 : Sane (S ++ D.dct (kb Ks) :: ws) := sane_dcts hS fun w q => by
    rcases List.mem_cons.mp q with rfl | q
    · exact ⟨_, rfl⟩
    exact hw w q
  generalize hS1e : S ++ D.dct (kb Ks) :: ws = S1 at hS1
  have at1' : ∀ {x : D}, (S1 ++ [x])[S.length]? = some (.dct (kb Ks)) := by
    intro x
    rw [← hS1e, List.append_assoc]
    exact at0
  have tk : ∀ {x : D}, (S1 ++ [x]).take S.length = S := by
    intro x
    rw [← hS1e, List.append_assoc]
    exact List.take_left' rfl
  have pE : (sortI Ks).Pairwise (· < ·) := sortI_lt kn
  have kz : ∀ x ∈ sortI Ks, x.natAbs < 2 ^ 900 := fun x hx => by
    obtain ⟨y, h1, h2⟩ := (km x).mp (mem_sortI.mp hx)
    have := hz y h1
    omega
  have rIn : ∀ x ∈ R, x ∈ sortI Ks := fun x hx => by
    obtain ⟨a, b⟩ := rootsIn x hx
    rcases ok.2 x ((can_root hK.nz).mpr hx) a b with h | h
    · exact mem_sortI.mpr ((km x).mpr ⟨x, h, .inl rfl⟩)
    · exact mem_sortI.mpr ((km x).mpr ⟨x - 1, h, .inr (by omega)⟩)
  walk_at "3"
  refine p_lift (sort_kb at1') ?_
  walk_at "3"
  refine .inl ⟨_, rfl, ?_⟩
  refine s_forT D.int (Ks2 S1 S.length K R far (sortI Ks)) ?_ ?_ _ _ _ ⟨[], R, _, _, _, rfl, hR, (fun z => by simp), rfl, rfl⟩
  · rintro x xs δ S2 ⟨dn, R1, o3, o5, o6, he, hR1, hc, rfl, rfl⟩
    have hxE : x ∈ sortI Ks := by rw [he]; exact List.mem_append_right _ List.mem_cons_self
    have hxd : x ∉ dn := fun q => by
      rw [he] at pE
      have := (List.pairwise_append.mp pE).2.2 x q x List.mem_cons_self
      omega
    have hxz := kz x hxE
    have hSb : Sane (S1 ++ [D.lst ((outP R (dn.filter (hit R))).map toD)]) := sane_app hS1 (out_closed _ _)
    walk_at "3"
    refine s_whileL (fun n δ S2 => ∃ (t : Nat) (R2 : List Int), n = R2.length ∧ Rts R2 ∧ R2.count x + t = R.count x ∧ (∀ z, z ≠ x → R2.count z = R1.count z) ∧ S2 = S1 ++ [D.lst ((outP R (dn.filter (hit R))).map toD)] ∧ δ = [some (.tup ((can K R2).map .int)), some (.int far), some (.ptr S.length), o3, some (.ptr S1.length), some (.int x), some (.int (t : Int)), none]) ?_ R1.length _ _ _ ⟨0, R1, rfl, hR1, by rw [hc x, if_neg hxd]; rfl, fun _ _ => rfl, rfl, rfl⟩ ?_
    · rintro n δ S2 ⟨t, R2, rfl, hR2, hx2, ho2, rfl, rfl⟩
      have l2 : (can K R2).length = K.length + R2.length := len_can K R2
      have kp := rst_pos hK
      refine Res.post.mono (?_ : Res.post _ (fun (k : Bool) S' => (k = true ↔ x ∈ R2) ∧ S' = S1 ++ [D.lst ((outP R (dn.filter (hit R))).map toD)])) fun k S' ⟨e, es⟩ => ?_
      · walk_at "3"
        rw [List.length_map, l2]
        refine ⟨fun q => ?_, fun q => ?_⟩
        · walk_at "3"
          refine Res.post.of_eq (poly_at_spec (can_Bd hK hR2) hxz _ hSb) ?_
          walk_at "3"
          refine ⟨?_, rfl⟩
          rw [beq_iff_eq]
          exact can_root hK.nz
        · have q := of_decide_eq_false q
          refine ⟨⟨fun z => (nomatch z), fun h => ?_⟩, rfl⟩
          have := List.length_pos_of_mem h
          omega
      · subst es
        refine ⟨fun k1 => ?_, fun k1 => ?_⟩
        · have hm2 := e.mp k1
          have l0 := List.length_pos_of_mem hm2
          refine ⟨R2.length - 1, by omega, ?_⟩
          walk_at "3"
          obtain ⟨c, P', eP⟩ := ml_cons x (can K (R2.erase x))
          have eP2 : can K R2 = c :: P' := by rw [can_out hm2, eP]
          have hBd := can_Bd hK hR2
          rw [eP2] at hBd ⊢
          refine Res.post.of_eq (divided_spec hBd hxz _ hSb) ?_
          have eq : hq x P' = can K (R2.erase x) := by rw [← hq_mulLin (can K (R2.erase x)) x, eP]; rfl
          rw [eq]
          walk_at "3"
          refine ⟨t + 1, R2.erase x, (List.length_erase_of_mem hm2).symm, ⟨?_, fun r hr => hR2.sz r (List.mem_of_mem_erase hr)⟩, ?_, fun z hz => ?_, rfl, rfl⟩
          · have := hR2.len
            rw [List.length_erase_of_mem hm2]; omega
          · have := List.count_pos_iff.mpr hm2
            rw [List.count_erase_self]; omega
          · rw [List.count_erase_of_ne hz]; exact ho2 z hz
        · have hm2 : x ∉ R2 := fun h => by rw [e.mpr h] at k1; cases k1
          have c0 : R2.count x = 0 := List.count_eq_zero.mpr hm2
          have hcn : ∀ z, R2.count z = if z ∈ dn ++ [x] then 0 else R.count z := fun z => by
            by_cases zx : z = x
            · subst zx; rw [c0, if_pos (List.mem_append_right _ List.mem_cons_self)]
            · rw [ho2 z zx, hc z]
              by_cases zd : z ∈ dn
              · rw [if_pos zd, if_pos (List.mem_append_left _ zd)]
              · rw [if_neg zd, if_neg]
                intro q
                rcases List.mem_append.mp q with q | q
                · exact zd q
                · exact zx (List.mem_singleton.mp q)
          have tx : t = R.count x := by omega
          walk_at "3"
          refine ⟨fun k2 => ?_, fun k2 => ?_⟩
          · have k2 : (0 : Int) < (t : Int) := of_decide_eq_true k2
            have hh : hit R x = true := by unfold hit; exact decide_eq_true (by omega)
            refine s_expr ?_
            refine p_append2 rfl get_app ?_
            walk_at "3"
            refine ⟨_, get_app, ?_, ?_⟩
            · rw [List.length_map]
              unfold outP
              rw [List.length_map]
              have h1 : (dn.filter (hit R)).length ≤ R.length := sub_len ((pE.imp fun h => Int.ne_of_lt h).sublist (by rw [he]; exact (List.filter_sublist).trans (List.sublist_append_left _ _))) fun y hy => by
                have := (List.mem_filter.mp hy).2
                unfold hit at this
                exact List.count_pos_iff.mp (of_decide_eq_true this)
              have := hR.len
              omega
            rw [set_app]
            refine ⟨dn ++ [x], R2, _, _, _, by rw [he, List.append_assoc]; rfl, hR2, hcn, ?_, rfl⟩
            rw [List.filter_append, List.filter_cons_of_pos hh, List.filter_nil]
            unfold outP
            rw [List.map_append, List.map_append, tx]
            rfl
          · have k2 : ¬ (0 : Int) < (t : Int) := of_decide_eq_false k2
            have hh : ¬ hit R x = true := by unfold hit; rw [decide_eq_true_iff]; omega
            walk_at "3"
            refine ⟨dn ++ [x], R2, _, _, _, by rw [he, List.append_assoc]; rfl, hR2, hcn, ?_, rfl⟩
            rw [List.filter_append, List.filter_cons_of_neg hh, List.filter_nil, List.append_nil]
    · show R1.length < 100
      have := hR1.len
      omega
  · rintro δ S2 ⟨dn, R1, o3, o5, o6, he, hR1, hc, rfl, rfl⟩
    rw [List.append_nil] at he
    walk_at "3"
    refine p_lift (a := .tup ((outP R (dn.filter (hit R))).map toD)) (by show (match deref (S1 ++ [D.lst ((outP R (dn.filter (hit R))).map toD)]) (.ptr S1.length) with | .lst xs => some (D.tup xs) | .tup xs => some (D.tup xs) | _ => none) = _; rw [deref_app]) ?_
    rw [← he, out_all pE rIn]
    exact ⟨rfl, tk⟩
end DL

set_option Elab.async false
set_option linter.all false
set_option maxRecDepth 100000
set_option maxHeartbeats 4000000
set_option autoImplicit false
/-! k30: the law's draws. -/
namespace DL
open PySem L2
open Emb
local macro_rules | `(tactic| walk_at "1") => `(tactic| with_reducible first
  | refine s_seq ?_ | refine s_asg ?_ | refine s_ret ?_ | refine s_if ?_ | refine s_expr ?_ | refine s_next ?_ | refine s_brk ?_ | refine s_cont ?_ | refine s_for ?_ | refine s_while ?_
  | refine p_c ?_ | refine p_bin ?_ | refine p_as ?_ | refine p_cons ?_ | refine p_nil ?_ | refine p_un ?_ | refine p_call ?_ | refine p_if ?_ | refine p_own ?_
  | refine p_keep ?_ | refine p_tru ?_ | refine p_and ?_ | refine p_or ?_ | refine p_not ?_ | refine p_val ?_ | refine p_rand ?_ | refine p_ror ?_ | refine p_rnot ?_ | refine p_chain ?_ | refine p_bif ?_
  | refine o_add ?_ | refine o_sub ?_ | refine o_ltU ?_ | refine o_leU ?_ | refine o_gtU ?_ | refine o_geU ?_ | refine o_neg ?_ | refine o_eqI ?_ | refine o_neI ?_ | refine o_abs ?_ | refine o_tru ?_ | refine p_true ?_ | refine p_false ?_
  | refine o_lenT ?_ | refine o_lenL ?_ | refine o_ix0 ?_ | refine o_ix1 ?_ | refine o_ix2 ?_ | refine o_ix0L ?_ | refine o_ix1L ?_ | refine o_ix2L ?_
  | refine s_par ?_ | refine p_yes ?_ | refine p_seq ?_ | refine s_gnil ?_ | refine s_gcons ?_ | refine s_gtux ?_ | refine s_gtupl ?_ | refine p_onone ?_ | refine p_osome ?_ | refine p_get2 ?_ | refine s_putU ?_ | refine p_sortIt ?_)
local macro_rules | `(tactic| walk_at "2") => `(tactic| first
  | walk_at "1"
  | (with_reducible refine p_var2 ?_)
  | ((with_reducible refine s_name ?_ ?_); (· exact Nat.le_of_ble_eq_true rfl); dsimp only [List.set_cons_zero, List.set_cons_succ])
  | (with_reducible refine p_tup ?_) | (with_reducible refine p_lst ?_) | ((with_reducible refine ⟨?_, ?_⟩); (· exact Nat.le_of_ble_eq_true rfl))
  | ((with_reducible refine p_ex2 (x := ?_) (y := ?_) ?_ ?_); rotate_left; rotate_left; (· rfl); refine ⟨?_, ?_, ?_⟩; (· exact Nat.le_of_ble_eq_true rfl); (· exact Nat.le_of_ble_eq_true rfl); dsimp only [List.set_cons_zero, List.set_cons_succ])
  | ((with_reducible refine p_isT ?_ ?_); (· rfl)) | ((with_reducible refine p_isF ?_ ?_); (· rfl))
  | ((with_reducible refine p_ex (x := ?_) ?_ ?_); rotate_left; (· rfl)))
local macro_rules | `(tactic| walk_at "3") => `(tactic| repeat walk_at "2")
open PR
theorem fmod_b (a : Int) {m : Int} (h : 0 < m) : 0 ≤ a.fmod m ∧ a.fmod m < m := by
  rw [Int.fmod_eq_emod_of_nonneg _ (by omega)]
  exact ⟨Int.emod_nonneg _ (by omega), Int.emod_lt_of_pos _ h⟩
theorem lmixed_spec (c k : Int) (hk : k.natAbs < 2 ^ 40) (S : Sto) (hS : Sane S) : (m__law_mixed [.int c, .int k] S).post fun d S' => (∃ i : Int, d = .int i ∧ 0 ≤ i ∧ i < 2 ^ 31) ∧ S' = S := by
  refine m_defQ hS (fun d ⟨c, e, _⟩ => by subst e; rfl) ?_
  show (b__law_mixed [some (.int c), some (.int k), none] S).post _ _ _ _
  unfold b__law_mixed
  walk_at "3"
  refine o_mod (by decide) ?_
  obtain ⟨a1, a2⟩ := fmod_b c (m := 1000000007) (by decide)
  walk_at "3"
  refine o_mul (fits_l (by decide)) ?_
  walk_at "3"
  refine o_mul (fits_r (by decide)) ?_
  walk_at "3"
  refine o_mod (by decide) ?_
  generalize hv : (Int.fmod _ 2147483647 : Int) = v
  have v0 : 0 ≤ v ∧ v < 2147483647 := by rw [← hv]; exact fmod_b _ (by decide)
  walk_at "3"
  refine o_mul (fits_l (by omega)) ?_
  walk_at "3"
  refine o_mod (by decide) ?_
  generalize hw : (Int.fmod _ 2147483629 : Int) = w
  have w0 : 0 ≤ w ∧ w < 2147483629 := by rw [← hw]; exact fmod_b _ (by decide)
  walk_at "3"
  refine o_div ⟨by decide, by decide⟩ ?_
  rw [Int.fdiv_eq_ediv_of_nonneg _ (by decide)]
  exact ⟨⟨_, rfl, by omega, by omega⟩, rfl⟩
/-- what is drawn by -/
def drw (r m : Int) : D := .dct [(.str "rest", .int r), (.str "mixed", .int m)]
def Dr (S : Sto) (j : Nat) : Prop := ∃ r m : Int, S[j]? = some (drw r m) ∧ 0 ≤ r
def Mv (j : Nat) (S S' : Sto) : Prop := ∃ r m : Int, 0 ≤ r ∧ S' = S.set j (drw r m)
theorem drw_closed (n : Nat) (r m : Int) : D.closed n (drw r m) = true := rfl
theorem Mv.sane {j : Nat} {S S' : Sto} (h : Mv j S S') (hS : Sane S) : Sane S' := by
  obtain ⟨r, m, _, rfl⟩ := h
  exact sane_set hS (drw_closed _ _ _)
theorem Mv.len {j : Nat} {S S' : Sto} (h : Mv j S S') : S'.length = S.length := by
  obtain ⟨r, m, _, rfl⟩ := h
  exact List.length_set
theorem Mv.dr {j : Nat} {S S' : Sto} (h : Mv j S S') (hd : Dr S j) : Dr S' j := by
  obtain ⟨r, m, hr, rfl⟩ := h
  obtain ⟨r0, m0, e, _⟩ := hd
  have hlt := (List.getElem?_eq_some_iff.mp e).1
  exact ⟨r, m, by rw [List.getElem?_set_self hlt], hr⟩
theorem Mv.trans {j : Nat} {S S1 S2 : Sto} (h : Mv j S S1) (g : Mv j S1 S2) : Mv j S S2 := by
  obtain ⟨r, m, _, rfl⟩ := h
  obtain ⟨r2, m2, hr2, rfl⟩ := g
  exact ⟨r2, m2, hr2, List.set_set _⟩
theorem Mv.refl {j : Nat} {S : Sto} (h : Dr S j) : Mv j S S := by
  obtain ⟨r, m, e, hr⟩ := h
  have q := unset (x := drw r m) e
  rw [List.set_set] at q
  exact ⟨r, m, hr, q.symm⟩
theorem Mv.at {j k : Nat} {S S' : Sto} (h : Mv j S S') (hk : k ≠ j) : S'[k]? = S[k]? := by
  obtain ⟨r, m, _, rfl⟩ := h
  exact List.getElem?_set_ne (by omega)
theorem m_defM {n j : Nat} {b : RS} {ds : List D} {S : Sto} {P : D → Prop} (hS : Sane S) (hP : ∀ z, P z → D.closed S.length z = true) (h : (b (ds.map some ++ List.replicate (n - ds.length) none) S).post NoS (fun z S1 => P z ∧ Mv j S S1) NoS NoS) : (mDef n b ds S).post fun z S' => P z ∧ Mv j S S' :=
  m_def (h.mono (fun _ _ z => z.elim) (fun z S1 ⟨hp, hm⟩ => by
    have e : S1.take S.length = S1 := List.take_of_length_le (by rw [hm.len]; exact Nat.le_refl _)
    rw [e]
    refine ⟨?_, hp, hm⟩
    rw [hP z hp]
    have := hm.sane hS
    unfold Sane at this
    rw [hm.len] at this
    rw [this]; rfl) (fun _ _ z => z.elim) (fun _ _ z => z.elim))
def Num (lo hi : Int) (z : D) : Prop := ∃ i : Int, z = .int i ∧ lo ≤ i ∧ i < hi
theorem num_closed {lo hi : Int} {n : Nat} {z : D} (h : Num lo hi z) : D.closed n z = true := by obtain ⟨i, rfl, _⟩ := h; rfl
theorem o_rest {S : Sto} {j : Nat} {r m : Int} {Q : D → Sto → Prop} (hj : S[j]? = some (drw r m)) (h : Q (.int r) S) : (Res.lift (gGetU S (.ptr j) (.str "rest")) S).post Q := o_getU hj rfl rfl h
theorem o_mixed {S : Sto} {j : Nat} {r m : Int} {Q : D → Sto → Prop} (hj : S[j]? = some (drw r m)) (h : Q (.int m) S) : (Res.lift (gGetU S (.ptr j) (.str "mixed")) S).post Q := o_getU hj rfl rfl h
theorem lnext_spec {j : Nat} {b : Int} (hb : 0 < b) (hb2 : b < 2 ^ 40) (S : Sto) (hS : Sane S) (hj : Dr S j) : (m__law_next [.ptr j, .int b] S).post fun z S' => Num 0 b z ∧ Mv j S S' := by
  refine m_defM hS (fun z => num_closed) ?_
  show (b__law_next [some (.ptr j), some (.int b), none] S).post _ _ _ _
  unfold b__law_next
  obtain ⟨r, m, hj, hr⟩ := hj
  have hlt := (List.getElem?_eq_some_iff.mp hj).1
  have bl : b.natAbs.log2 < 9000 := (Nat.log2_lt (by omega)).mpr (Nat.lt_of_lt_of_le (show b.natAbs < 2 ^ 40 by omega) (Nat.pow_le_pow_right (by decide) (by decide)))
  walk_at "3"
  refine o_rest hj ?_
  walk_at "3"
  refine ⟨fun k => ?_, fun k => ?_⟩
  · have k : 0 < r := of_decide_eq_true k
    walk_at "3"
    refine o_rest hj ?_
    walk_at "3"
    refine o_mod (by omega) ?_
    walk_at "3"
    refine o_rest hj ?_
    walk_at "3"
    refine o_div ⟨by omega, bl⟩ ?_
    walk_at "3"
    refine ⟨j, _, drw (r.fdiv b) m, rfl, hj, rfl, ?_⟩
    walk_at "3"
    obtain ⟨h1, h2⟩ := fmod_b r hb
    exact ⟨⟨_, rfl, h1, h2⟩, r.fdiv b, m, by rw [Int.fdiv_eq_ediv_of_nonneg _ (by omega)]; exact Int.ediv_nonneg hr (by omega), rfl⟩
  · walk_at "3"
    refine o_mixed hj ?_
    walk_at "3"
    refine (lmixed_spec _ b (by omega) S hS).mono ?_
    rintro d S1 ⟨⟨i, rfl, i0, i1⟩, rfl⟩
    walk_at "3"
    refine (lmixed_spec _ 5 (by decide) _ hS).mono ?_
    rintro d S1 ⟨⟨i2, rfl, i20, i21⟩, rfl⟩
    walk_at "3"
    refine ⟨j, _, drw r i2, rfl, hj, rfl, ?_⟩
    have hj2 : (S1.set j (drw r i2))[j]? = some (drw r i2) := by rw [List.getElem?_set_self hlt]
    walk_at "3"
    refine o_mixed hj2 ?_
    walk_at "3"
    refine o_mod (by omega) ?_
    obtain ⟨h1, h2⟩ := fmod_b i2 hb
    exact ⟨⟨_, rfl, h1, h2⟩, r, i2, hr, rfl⟩
theorem laround_spec {j : Nat} {b : Int} (hb : 0 < b) (hb2 : b ≤ 10 ^ 30) (S : Sto) (hS : Sane S) (hj : Dr S j) : (m__law_around [.ptr j, .int b] S).post fun z S' => Num (-b) (b + 1) z ∧ Mv j S S' := by
  refine m_defM hS (fun z => num_closed) ?_
  show (b__law_around [some (.ptr j), some (.int b), none, none] S).post _ _ _ _
  unfold b__law_around
  walk_at "3"
  refine ⟨fun k => ?_, fun k => ?_⟩
  · have k : b < 500000 := of_decide_eq_true k
    walk_at "3"
    refine o_mul (fits_l (by decide)) ?_
    walk_at "3"
    refine (lnext_spec (by omega) (by omega) S hS hj).mono ?_
    rintro z S1 ⟨⟨i, rfl, i0, i1⟩, mv⟩
    walk_at "3"
    exact ⟨⟨_, rfl, by omega, by omega⟩, mv⟩
  · walk_at "3"
    refine s_whileL (fun n δ S2 => ∃ (k : Nat) (f : Int), n + k = 20 ∧ k ≤ 6 ∧ 0 ≤ f ∧ f < 10 ^ (6 * k) ∧ Mv j S S2 ∧ δ = [some (.ptr j), some (.int b), some (.int f), some (.int (10 ^ (6 * k)))]) ?_ 20 _ _ _ ⟨0, 0, rfl, by decide, by decide, by decide, Mv.refl hj, rfl⟩ (by show 20 < 100; decide)
    rintro n δ S2 ⟨k, f, hn, hk, f0, f1, mv, rfl⟩
    walk_at "3"
    refine o_mul (fits_l (by decide)) ?_
    walk_at "3"
    refine ⟨fun q => ?_, fun q => ?_⟩
    · have q : (10 : Int) ^ (6 * k) < 2 * b + 1 := of_decide_eq_true q
      have k5 : k ≤ 5 := by
        refine Classical.byContradiction fun h => ?_
        have : k = 6 := by omega
        subst this
        omega
      refine ⟨n - 1, by omega, ?_⟩
      have e6 : (10 : Int) ^ (6 * (k + 1)) = 10 ^ (6 * k) * 1000000 := by rw [show 6 * (k + 1) = 6 * k + 6 by omega, Int.pow_add]; rfl
      walk_at "3"
      refine o_mul (fits_r (by decide)) ?_
      walk_at "3"
      refine (lnext_spec (by decide) (by decide) S2 (mv.sane hS) (mv.dr hj)).mono ?_
      rintro z S3 ⟨⟨i, rfl, i0, i1⟩, mv2⟩
      walk_at "3"
      refine o_mul (fits_r (by decide)) ?_
      walk_at "3"
      rw [← e6]
      exact ⟨k + 1, f * 1000000 + i, by omega, by omega, by omega, by omega, mv.trans mv2, rfl⟩
    · walk_at "3"
      refine o_mul (fits_l (by decide)) ?_
      walk_at "3"
      refine o_mod (by omega) ?_
      walk_at "3"
      obtain ⟨h1, h2⟩ := fmod_b f (m := 2 * b + 1) (by omega)
      exact ⟨⟨_, rfl, by omega, by omega⟩, mv⟩
end DL

set_option Elab.async false
set_option linter.all false
set_option maxRecDepth 100000
set_option maxHeartbeats 4000000
set_option autoImplicit false
/-! k30: the law's roots, products, beginnings. -/
namespace DL
open PySem L2
open Emb
local macro_rules | `(tactic| walk_at "1") => `(tactic| with_reducible first
  | refine s_seq ?_ | refine s_asg ?_ | refine s_ret ?_ | refine s_if ?_ | refine s_expr ?_ | refine s_next ?_ | refine s_brk ?_ | refine s_cont ?_ | refine s_for ?_ | refine s_while ?_
  | refine p_c ?_ | refine p_bin ?_ | refine p_as ?_ | refine p_cons ?_ | refine p_nil ?_ | refine p_un ?_ | refine p_call ?_ | refine p_if ?_ | refine p_own ?_
  | refine p_keep ?_ | refine p_tru ?_ | refine p_and ?_ | refine p_or ?_ | refine p_not ?_ | refine p_val ?_ | refine p_rand ?_ | refine p_ror ?_ | refine p_rnot ?_ | refine p_chain ?_ | refine p_bif ?_
  | refine o_add ?_ | refine o_sub ?_ | refine o_ltU ?_ | refine o_leU ?_ | refine o_gtU ?_ | refine o_geU ?_ | refine o_neg ?_ | refine o_eqI ?_ | refine o_neI ?_ | refine o_abs ?_ | refine o_tru ?_ | refine p_true ?_ | refine p_false ?_
  | refine o_lenT ?_ | refine o_lenL ?_ | refine o_ix0 ?_ | refine o_ix1 ?_ | refine o_ix2 ?_ | refine o_ix0L ?_ | refine o_ix1L ?_ | refine o_ix2L ?_
  | refine s_par ?_ | refine p_yes ?_ | refine p_seq ?_ | refine s_gnil ?_ | refine s_gcons ?_ | refine s_gtux ?_ | refine s_gtupl ?_ | refine p_onone ?_ | refine p_osome ?_ | refine p_get2 ?_ | refine s_putU ?_ | refine p_sortIt ?_)
local macro_rules | `(tactic| walk_at "2") => `(tactic| first
  | walk_at "1"
  | (with_reducible refine p_var2 ?_)
  | ((with_reducible refine s_name ?_ ?_); (· exact Nat.le_of_ble_eq_true rfl); dsimp only [List.set_cons_zero, List.set_cons_succ])
  | (with_reducible refine p_tup ?_) | (with_reducible refine p_lst ?_) | ((with_reducible refine ⟨?_, ?_⟩); (· exact Nat.le_of_ble_eq_true rfl))
  | ((with_reducible refine p_ex2 (x := ?_) (y := ?_) ?_ ?_); rotate_left; rotate_left; (· rfl); refine ⟨?_, ?_, ?_⟩; (· exact Nat.le_of_ble_eq_true rfl); (· exact Nat.le_of_ble_eq_true rfl); dsimp only [List.set_cons_zero, List.set_cons_succ])
  | ((with_reducible refine p_isT ?_ ?_); (· rfl)) | ((with_reducible refine p_isF ?_ ?_); (· rfl))
  | ((with_reducible refine p_ex (x := ?_) ?_ ?_); rotate_left; (· rfl)))
local macro_rules | `(tactic| walk_at "3") => `(tactic| repeat walk_at "2")
theorem atI_nat {xs : List D} {k : Nat} {d : D} (h : xs[k]? = some d) : atI xs (k : Int) = some d := by
  have hk := (List.getElem?_eq_some_iff.mp h).1
  unfold atI ixN
  rw [if_pos (by omega), if_pos (by omega)]
  exact h
open PR
theorem ix_any {S : Sto} {ns : List Int} {i : Int} {Q : D → Sto → Prop} (h0 : 0 ≤ i) (h1 : i < ns.length) (h : ∀ v ∈ ns, Q (.int v) S) : (Res.lift (gIx S (.lst (ns.map .int)) (.int i)) S).post Q := by
  obtain ⟨n, rfl⟩ := Int.eq_ofNat_of_zero_le h0
  have hq : n < ns.length := by omega
  refine o_ixL (d := .int ns[n]) ?_ (h _ (List.getElem_mem hq))
  refine atI_nat ?_
  rw [List.getElem?_map, List.getElem?_eq_getElem hq]
  rfl
theorem ix_ptr {S : Sto} {k : Nat} {xs : List D} {e : D} (hk : S[k]? = some (.lst xs)) : gIx S (.ptr k) e = gIx S (.lst xs) e := by
  unfold gIx
  rw [deref_at hk]
  rfl
theorem ne_ptr {S : Sto} {k : Nat} {xs : List D} {e : D} (hk : S[k]? = some (.lst xs)) : gNe S (.ptr k) e = gNe S (.lst xs) e := by
  unfold gNe eqD
  rw [deref_at hk]
  rfl
theorem len_ptr {S : Sto} {k : Nat} {xs : List D} (hk : S[k]? = some (.lst xs)) : gLen S [.ptr k] = some (.int xs.length) := by
  unfold gLen
  dsimp only
  rw [deref_at hk]
theorem lroot_spec {j k : Nat} {rs : List Int} {B : Int} (hB : 10 ^ 30 ≤ B) (hrs : ∀ r ∈ rs, -B ≤ r ∧ r ≤ B) (hl : rs.length ≤ 100) (S : Sto) (hS : Sane S) (hj : Dr S j) (hk : S[k]? = some (.lst (rs.map .int))) (hjk : k ≠ j) :
    (m__law_root [.ptr j, .ptr k] S).post fun z S' => Num (-(B + 1)) (B + 2) z ∧ Mv j S S' := by
  have sl : 16000000 ≤ sizeLine := by decide
  refine m_defM hS (fun z => num_closed) ?_
  show (b__law_root [some (.ptr j), some (.ptr k)] S).post _ _ _ _
  unfold b__law_root
  have rest : ∀ S1, Mv j S S1 → ((sRet (rCall m__law_around (rCons (rVar 0) (rCons (rBin gIx (rKeep (rLst (rCons (rC (.int 2)) (rCons (rC (.int 3)) (rCons (rC (.int 20)) (rCons (rBin gPow (rC (.int 10)) (rC (.int 6))) (rCons (rBin gPow (rC (.int 10)) (rC (.int 30))) rNil))))))) (rCall m__law_next (rCons (rVar 0) (rCons (rC (.int 5)) rNil)))) rNil)))) [some (.ptr j), some (.ptr k)] S1).post NoS (fun z S' => Num (-(B + 1)) (B + 2) z ∧ Mv j S S') NoS NoS := fun S1 mv => by
    walk_at "3"
    refine pow6 (δ := []) (n := 6) (by decide) ?_
    walk_at "3"
    refine pow6 (δ := []) (n := 30) (by decide) ?_
    walk_at "3"
    refine (lnext_spec (by decide) (by decide) S1 (mv.sane hS) (mv.dr hj)).mono ?_
    rintro z S2 ⟨⟨i, rfl, i0, i1⟩, mv2⟩
    refine ix_any (ns := [2, 3, 20, 10 ^ 6, 10 ^ 30]) i0 (by exact i1) fun v hv => ?_
    have hv : 0 < v ∧ v ≤ 10 ^ 30 := by
      simp only [List.mem_cons, List.not_mem_nil, or_false] at hv
      omega
    walk_at "3"
    refine (laround_spec hv.1 hv.2 S2 (mv2.sane (mv.sane hS)) (mv2.dr (mv.dr hj))).mono ?_
    rintro z S3 ⟨⟨i, rfl, i0, i1⟩, mv3⟩
    exact ⟨⟨i, rfl, by omega, by omega⟩, mv.trans (mv2.trans mv3)⟩
  walk_at "3"
  rw [ne_ptr hk]
  refine o_neIs (ms := []) ?_
  walk_at "3"
  refine ⟨fun h => ?_, fun h => ?_⟩
  · have h : rs ≠ [] := by simpa using h
    have hl0 : 0 < rs.length := List.length_pos_iff.mpr h
    walk_at "3"
    refine (lnext_spec (by decide) (by decide) S hS hj).mono ?_
    rintro z S1 ⟨⟨i, rfl, i0, i1⟩, mv1⟩
    walk_at "3"
    refine ⟨fun h => ?_, fun h => ?_⟩
    · walk_at "3"
      have hk1 : S1[k]? = some (.lst (rs.map .int)) := by rw [mv1.at hjk]; exact hk
      refine p_lift (len_ptr hk1) ?_
      walk_at "3"
      rw [List.length_map]
      refine (lnext_spec (by omega) (by omega) S1 (mv1.sane hS) (mv1.dr hj)).mono ?_
      rintro z S2 ⟨⟨i, rfl, i0, i1⟩, mv2⟩
      have mv2 := mv1.trans mv2
      have hk2 : S2[k]? = some (.lst (rs.map .int)) := by rw [mv2.at hjk]; exact hk
      rw [ix_ptr hk2]
      refine ix_any i0 i1 fun v hv => ?_
      have hv := hrs v hv
      walk_at "3"
      refine (lnext_spec (by decide) (by decide) S2 (mv2.sane hS) (mv2.dr hj)).mono ?_
      rintro z S3 ⟨⟨i, rfl, i0, i1⟩, mv3⟩
      have mv3 := mv2.trans mv3
      refine ix_any (ns := [1, 1, -1]) i0 (by exact i1) fun w hw => ?_
      have hw : w = 1 ∨ w = -1 := by
        simp only [List.mem_cons, List.not_mem_nil, or_false] at hw
        omega
      refine o_mul (fits_r (by omega)) ?_
      walk_at "3"
      refine (lnext_spec (by decide) (by decide) S3 (mv3.sane hS) (mv3.dr hj)).mono ?_
      rintro z S4 ⟨⟨i, rfl, i0, i1⟩, mv4⟩
      have mv4 := mv3.trans mv4
      refine ix_any (ns := [0, 0, 1]) i0 (by exact i1) fun u hu => ?_
      have hu : u = 0 ∨ u = 1 := by
        simp only [List.mem_cons, List.not_mem_nil, or_false] at hu
        omega
      walk_at "3"
      refine ⟨⟨_, rfl, ?_, ?_⟩, mv4⟩ <;> rcases hw with rfl | rfl <;> omega
    · refine s_next ?_
      exact rest S1 mv1
  · refine p_false ?_
    refine s_next ?_
    exact rest S (Mv.refl hj)
theorem idx_small : ∀ n : Fin 66, ∀ m : Fin 10, (idxS n.val (some 0) none ((m.val : Int) + 1)).length ≤ 1000 := by decide +kernel
theorem step_map {A B : Type} (f : A → B) (xs : List A) (lo hi : Option Int) (k : Int) : stepS (xs.map f) lo hi k = (stepS xs lo hi k).map f := by
  unfold stepS
  rw [List.length_map, List.map_filterMap]
  congr 1
  funext i
  rw [List.getElem?_map]
theorem lbegun_spec {cs : List Int} {m : Nat} (hc : cs.length ≤ 65) (h1 : 1 ≤ m) (hm : m ≤ 10) (S : Sto) (hS : Sane S) : (m__law_begun [.lst (cs.map .int), .int 0, .int m] S).post fun z S' => z = .ptr S.length ∧ ∃ r i : Int, 0 ≤ r ∧ S' = S ++ [drw r i] := by
  have sl : 16000000 ≤ sizeLine := by decide
  refine m_defK ?_
  show (b__law_begun [some (.lst (cs.map .int)), some (.int 0), some (.int m), none, none] S).post _ _ _ _
  unfold b__law_begun
  have hlen : (stepS cs (some 0) none (m : Int)).length ≤ 1000 := by
    have := idx_small ⟨cs.length, by omega⟩ ⟨m - 1, by omega⟩
    unfold stepS
    refine Nat.le_trans (List.length_filterMap_le _ _) ?_
    rw [show (m : Int) = ((m - 1 : Nat) : Int) + 1 by omega]
    exact this
  have tail : ∀ os : List Int, os ≠ [] → os.length ≤ 1000 → ((sSeq (sAsg (rAs gMax (rCons (rVar 3) rNil)) (gName 4))
    (sRet (rOwn (rDisp [((rC (.str "rest")), (rBin gMul (rVar 4) (rAs gInt (rCons (rBin gGeU (rVar 4) (rBin gPow (rC (.int 10)) (rC (.int 18)))) rNil)))), ((rC (.str "mixed")), (rCall m__law_mixed (rCons (rCall m__law_mixed (rCons (rAs gSum (rCons (rVar 3) rNil)) (rCons (rVar 1) rNil))) (rCons (rAs gLen (rCons (rVar 3) rNil)) rNil))))])))) [some (.lst (cs.map .int)), some (.int 0), some (.int m), some (.lst (os.map .int)), none] S).post (fun _ S1 => Res.post (.ok D.non S1) fun z S' => z = D.ptr S.length ∧ ∃ r i : Int, 0 ≤ r ∧ S' = S ++ [drw r i]) (fun (z : D) S' => z = D.ptr S.length ∧ ∃ r i : Int, 0 ≤ r ∧ S' = S ++ [drw r i]) NoS NoS := fun os ho hl => by
    obtain ⟨g, hg, _⟩ := maxI_mem ho
    walk_at "3"
    refine o_maxL hg ?_
    walk_at "3"
    refine p_disp ?_
    refine p_pairs ?_
    walk_at "3"
    refine pow6 (δ := []) (n := 18) (by decide) ?_
    walk_at "3"
    refine p_lift (a := .int (if decide ((10 : Int) ^ 18 ≤ g) then 1 else 0)) rfl ?_
    have hi : (if decide ((10 : Int) ^ 18 ≤ g) = true then (1 : Int) else 0).natAbs < 2 ^ 64 := by split <;> decide
    refine o_mul (fits_r hi) ?_
    have hr : 0 ≤ g * (if decide ((10 : Int) ^ 18 ≤ g) = true then (1 : Int) else 0) := by
      split
      · rename_i q
        have := of_decide_eq_true q
        omega
      · omega
    generalize g * (if decide ((10 : Int) ^ 18 ≤ g) = true then (1 : Int) else 0) = r at hr
    refine p_pairs ?_
    walk_at "3"
    refine o_sumI ?_
    walk_at "3"
    refine (lmixed_spec _ 0 (by decide) S hS).mono ?_
    rintro d S1 ⟨⟨i, rfl, i0, i1⟩, rfl⟩
    walk_at "3"
    refine (lmixed_spec _ _ (by rw [List.length_map]; omega) _ hS).mono ?_
    rintro d S1 ⟨⟨i2, rfl, i20, i21⟩, rfl⟩
    refine p_pairs_nil ?_
    refine ⟨rfl, ?_⟩
    exact ⟨rfl, r, i2, hr, rfl⟩
  walk_at "3"
  refine p_bind (p_var rfl ?_)
  refine p_bind (p_osome (p_var rfl ⟨0, rfl, ?_⟩))
  refine p_bind (p_onone ?_)
  refine p_bind (p_osome (p_var rfl ⟨(m : Int), rfl, ?_⟩))
  show Res.post (if (m : Int) ≠ 0 ∧ (stepS (cs.map D.int) (some 0) none (m : Int)).length ≤ sizeLine then Res.ok (D.lst (stepS (cs.map D.int) (some 0) none (m : Int))) S else .stuck) _
  rw [step_map, List.length_map, if_pos ⟨by omega, by omega⟩]
  refine Res.post.of_eq rfl ?_
  refine ⟨!((stepS cs (some 0) none (m : Int)).map D.int).isEmpty, rfl, fun h => ?_, fun h => ?_⟩
  · refine s_name (Nat.le_of_ble_eq_true rfl) ?_
    refine tail _ (fun e => ?_) hlen
    rw [e] at h
    cases h
  · refine p_keep ?_
    refine p_lst ?_
    refine p_cons (p_var rfl (p_nil ⟨by decide, _, rfl, ?_⟩))
    refine s_name (Nat.le_of_ble_eq_true rfl) ?_
    exact tail [0] (by simp) (by simp)
/-! ### products -/
theorem ev_set : ∀ (F : List Int) (j : Nat) (v z : Int), j < F.length → evI (F.set j ((F[j]?).getD 0 + v)) z = evI F z + v * z ^ j
  | [], _, _, _, h => by simp at h
  | c :: r, 0, v, z, _ => by show (c + v) + z * evI r z = (c + z * evI r z) + v * z ^ 0; rw [Int.pow_zero]; omega
  | c :: r, j + 1, v, z, h => by
    have ih := ev_set r j v z (by simpa using h)
    show c + z * evI (r.set j (((r[j]?).getD 0) + v)) z = (c + z * evI r z) + v * z ^ (j + 1)
    rw [ih]
    grind
theorem ev_app : ∀ (p : List Int) (c z : Int), evI (p ++ [c]) z = evI p z + c * z ^ p.length
  | [], c, z => by show c + z * 0 = 0 + c * z ^ 0; rw [Int.pow_zero]; omega
  | a :: r, c, z => by
    show a + z * evI (r ++ [c]) z = (a + z * evI r z) + c * z ^ (r.length + 1)
    rw [ev_app r c z]
    grind
theorem ev_zeros : ∀ (n : Nat) (z : Int), evI (List.replicate n 0) z = 0
  | 0, _ => rfl
  | n + 1, z => by rw [List.replicate_succ]; show 0 + z * evI (List.replicate n 0) z = 0; rw [ev_zeros n z]; omega
theorem rep0 {S : Sto} {n : Nat} {k : Int} (hk : k = (n : Int)) (hn : n ≤ 1000) : gRepF S (.lst [.int 0]) (.int k) = some (.lst ((List.replicate n (0 : Int)).map .int)) := by
  have sl : 16000000 ≤ sizeLine := by decide
  subst hk
  unfold gRepF
  dsimp only
  have h1 : [D.int 0].length * (n : Int).toNat ≤ sizeLine := by rw [Int.toNat_natCast]; simp; omega
  rw [if_pos ⟨by omega, by omega, h1⟩, Int.toNat_natCast, List.flatten_replicate_singleton, List.map_replicate]
theorem ixN_nat {n j : Nat} (h : j < n) : ixN n (j : Int) = some j := by
  unfold ixN
  rw [if_pos (by omega), if_pos (by omega)]
  rfl
def Prod (a b : List Int) (d : D) : Prop := ∃ F : List Int, d = .lst (F.map .int) ∧ F.length = a.length + b.length - 1 ∧ ∀ z, evI F z = evI a z * evI b z
theorem lproduct_spec {a b : List Int} (ha : 1 ≤ a.length) (hb : 1 ≤ b.length) (hl : a.length + b.length ≤ 100) (ba : ∀ c ∈ a, c.natAbs < 2 ^ 900) (bb : ∀ c ∈ b, c.natAbs < 2 ^ 900) (S : Sto) (hS : Sane S) :
    (m__law_product [.lst (a.map .int), .lst (b.map .int)] S).post fun d S' => Prod a b d ∧ S' = S := by
  have sl : 16000000 ≤ sizeLine := by decide
  refine m_defJQ hS ?_
  show (b__law_product [some (.lst (a.map .int)), some (.lst (b.map .int)), none, none, none, none, none] S).post _ _ _ _
  unfold b__law_product
  walk_at "3"
  rw [List.length_map, List.length_map]
  refine p_lift (rep0 (n := a.length + b.length - 1) (by omega) (by omega)) ?_
  walk_at "3"
  refine p_enum ?_
  walk_at "3"
  rw [enum_P]
  refine s_forT (fun q : Nat × Int => D.tux [.int q.1, .int q.2]) (fun xs δ S2 => ∃ (pre rest F : List Int) (o3 o4 o5 o6 : Option D), a = pre ++ rest ∧ xs = enP pre.length rest ∧ F.length = a.length + b.length - 1 ∧ (∀ z, evI F z = evI pre z * evI b z) ∧ S2 = S ++ [.lst (F.map .int)] ∧ δ = [some (.lst (a.map .int)), some (.lst (b.map .int)), some (.ptr S.length), o3, o4, o5, o6]) ?_ ?_ _ _ _ ⟨[], a, List.replicate (a.length + b.length - 1) 0, none, none, none, none, rfl, rfl, List.length_replicate, (fun z => by rw [ev_zeros]; show (0 : Int) = 0 * evI b z; omega), rfl, rfl⟩
  · rintro q xs δ S2 ⟨pre, rest, F, o3, o4, o5, o6, he, hx, hF, hev, rfl, rfl⟩
    rcases rest with _ | ⟨c, rest⟩
    · cases hx
    obtain ⟨rfl, rfl⟩ : q = (pre.length, c) ∧ xs = enP (pre.length + 1) rest := by
      have : q :: xs = (pre.length, c) :: enP (pre.length + 1) rest := hx
      simpa using this
    have hc : c.natAbs < 2 ^ 900 := ba c (by rw [he]; exact List.mem_append_right _ List.mem_cons_self)
    have hpl : pre.length + 1 ≤ a.length := by rw [he, List.length_append, List.length_cons]; omega
    show (gTup _ (.tux [.int pre.length, .int c]) _ _).post _
    walk_at "3"
    refine p_enum ?_
    walk_at "3"
    rw [enum_P]
    refine s_forT (fun q : Nat × Int => D.tux [.int q.1, .int q.2]) (fun ys δ S2 => ∃ (pb rb F : List Int) (o5 o6 : Option D), b = pb ++ rb ∧ ys = enP pb.length rb ∧ F.length = a.length + b.length - 1 ∧ (∀ z, evI F z = evI pre z * evI b z + c * z ^ pre.length * evI pb z) ∧ S2 = S ++ [.lst (F.map .int)] ∧ δ = [some (.lst (a.map .int)), some (.lst (b.map .int)), some (.ptr S.length), some (.int pre.length), some (.int c), o5, o6]) ?_ ?_ _ _ _ ⟨[], b, F, _, _, rfl, rfl, hF, (fun z => by rw [hev]; show _ = _ + c * z ^ pre.length * 0; omega), rfl, rfl⟩
    · rintro q ys δ S2 ⟨pb, rb, F, o5, o6, hb', hy, hF, hev, rfl, rfl⟩
      rcases rb with _ | ⟨d, rb⟩
      · cases hy
      obtain ⟨rfl, rfl⟩ : q = (pb.length, d) ∧ ys = enP (pb.length + 1) rb := by
        have : q :: ys = (pb.length, d) :: enP (pb.length + 1) rb := hy
        simpa using this
      have hd : d.natAbs < 2 ^ 900 := bb d (by rw [hb']; exact List.mem_append_right _ List.mem_cons_self)
      have hql : pb.length + 1 ≤ b.length := by rw [hb', List.length_append, List.length_cons]; omega
      have hj : pre.length + pb.length < F.length := by omega
      show (gTup _ (.tux [.int pb.length, .int d]) _ _).post _
      walk_at "3"
      refine s_setL ?_
      walk_at "3"
      rw [show (pre.length : Int) + (pb.length : Int) = ((pre.length + pb.length : Nat) : Int) by omega, ix_ptr get_app]
      refine o_ixL (d := .int ((F[pre.length + pb.length]?).getD 0)) (atI_nat (by rw [List.getElem?_map, List.getElem?_eq_getElem hj]; rfl)) ?_
      walk_at "3"
      refine o_mul (fits_of (a := 900) (b := 900) hc hd (by decide)) ?_
      walk_at "3"
      refine ⟨S.length, _, _, pre.length + pb.length, rfl, rfl, get_app, by rw [show (pre.length : Int) + (pb.length : Int) = ((pre.length + pb.length : Nat) : Int) by omega]; exact ixN_nat (by rw [List.length_map]; exact hj), ?_⟩
      rw [set_ints, set_app]
      refine ⟨pb ++ [d], rb, _, _, _, by rw [hb', List.append_assoc]; rfl, by rw [List.length_append]; rfl, by rw [List.length_set]; exact hF, fun z => ?_, rfl, rfl⟩
      rw [ev_set _ _ _ _ hj, hev, ev_app]
      grind
    · rintro δ S2 ⟨pb, rb, F, o5, o6, hb', hy, hF, hev, rfl, rfl⟩
      rcases rb with _ | ⟨d, rb⟩
      · rw [List.append_nil] at hb'
        subst hb'
        refine ⟨pre ++ [c], rest, F, _, _, _, _, by rw [he, List.append_assoc]; rfl, by rw [List.length_append]; rfl, hF, fun z => ?_, rfl, rfl⟩
        rw [hev, ev_app]
        grind
      · cases hy
  · rintro δ S2 ⟨pre, rest, F, o3, o4, o5, o6, he, hx, hF, hev, rfl, rfl⟩
    rcases rest with _ | ⟨c, rest⟩
    · rw [List.append_nil] at he
      subst he
      refine s_seq ?_
      refine s_freeze rfl rfl ?_
      walk_at "3"
      exact ⟨closed_ints' _, take_app, ⟨F, rfl, hF, hev⟩, rfl⟩
    · cases hx
end DL

set_option Elab.async false
set_option linter.all false
set_option maxRecDepth 100000
set_option maxHeartbeats 4000000
set_option autoImplicit false
/-! k30: the law's own rests; what is due. -/
namespace DL
open PySem L2
open Emb
local macro_rules | `(tactic| walk_at "1") => `(tactic| with_reducible first
  | refine s_seq ?_ | refine s_asg ?_ | refine s_ret ?_ | refine s_if ?_ | refine s_expr ?_ | refine s_next ?_ | refine s_brk ?_ | refine s_cont ?_ | refine s_for ?_ | refine s_while ?_
  | refine p_c ?_ | refine p_bin ?_ | refine p_as ?_ | refine p_cons ?_ | refine p_nil ?_ | refine p_un ?_ | refine p_call ?_ | refine p_if ?_ | refine p_own ?_
  | refine p_keep ?_ | refine p_tru ?_ | refine p_and ?_ | refine p_or ?_ | refine p_not ?_ | refine p_val ?_ | refine p_rand ?_ | refine p_ror ?_ | refine p_rnot ?_ | refine p_chain ?_ | refine p_bif ?_
  | refine o_add ?_ | refine o_sub ?_ | refine o_ltU ?_ | refine o_leU ?_ | refine o_gtU ?_ | refine o_geU ?_ | refine o_neg ?_ | refine o_eqI ?_ | refine o_neI ?_ | refine o_abs ?_ | refine o_tru ?_ | refine p_true ?_ | refine p_false ?_
  | refine o_lenT ?_ | refine o_lenL ?_ | refine o_ix0 ?_ | refine o_ix1 ?_ | refine o_ix2 ?_ | refine o_ix0L ?_ | refine o_ix1L ?_ | refine o_ix2L ?_
  | refine s_par ?_ | refine p_yes ?_ | refine p_seq ?_ | refine s_gnil ?_ | refine s_gcons ?_ | refine s_gtux ?_ | refine s_gtupl ?_ | refine p_onone ?_ | refine p_osome ?_ | refine p_get2 ?_ | refine s_putU ?_ | refine p_sortIt ?_)
local macro_rules | `(tactic| walk_at "2") => `(tactic| first
  | walk_at "1"
  | (with_reducible refine p_var2 ?_)
  | ((with_reducible refine s_name ?_ ?_); (· exact Nat.le_of_ble_eq_true rfl); dsimp only [List.set_cons_zero, List.set_cons_succ])
  | (with_reducible refine p_tup ?_) | (with_reducible refine p_lst ?_) | ((with_reducible refine ⟨?_, ?_⟩); (· exact Nat.le_of_ble_eq_true rfl))
  | ((with_reducible refine p_ex2 (x := ?_) (y := ?_) ?_ ?_); rotate_left; rotate_left; (· rfl); refine ⟨?_, ?_, ?_⟩; (· exact Nat.le_of_ble_eq_true rfl); (· exact Nat.le_of_ble_eq_true rfl); dsimp only [List.set_cons_zero, List.set_cons_succ])
  | ((with_reducible refine p_isT ?_ ?_); (· rfl)) | ((with_reducible refine p_isF ?_ ?_); (· rfl))
  | ((with_reducible refine p_ex (x := ?_) ?_ ?_); rotate_left; (· rfl)))
local macro_rules | `(tactic| walk_at "3") => `(tactic| repeat walk_at "2")
open PR
/-! ### rests have no whole roots -/
theorem sq_nat (z : Int) : z * z = ((z.natAbs * z.natAbs : Nat) : Int) := (Int.natAbs_mul_self).symm
theorem sq_ne {c s : Nat} (h1 : s * s < c) (h2 : c < (s + 1) * (s + 1)) (z : Int) : z * z ≠ (c : Int) := fun e => by
  rw [sq_nat] at e
  have e : z.natAbs * z.natAbs = c := by exact_mod_cast e
  by_cases h : z.natAbs ≤ s
  · have := Nat.mul_le_mul h h
    omega
  · have h : s + 1 ≤ z.natAbs := by omega
    have := Nat.mul_le_mul h h
    omega
def restsL : List (List Int) := [[1, 0, 1], [-2, 0, 1], [1, 1, 1], [-2, 0, 0, 1], [7, -5, 1], [-1, -1, 1], [-3 * 10 ^ 40, 0, 1]]
theorem ev3 (a b c z : Int) : evI [a, b, c] z = a + b * z + c * (z * z) := by show a + z * (b + z * (c + z * 0)) = _; grind
theorem ev4 (a b c d z : Int) : evI [a, b, c, d] z = a + b * z + c * (z * z) + d * (z * (z * z)) := by show a + z * (b + z * (c + z * (d + z * 0))) = _; grind
theorem rest_nz : ∀ q ∈ restsL, ∀ z, evI q z ≠ 0 := fun q hq z e => by
  unfold restsL at hq
  simp only [List.mem_cons, List.not_mem_nil, or_false] at hq
  rcases hq with rfl | rfl | rfl | rfl | rfl | rfl | rfl
  · rw [ev3, sq_nat] at e; omega
  · rw [ev3] at e
    exact sq_ne (c := 2) (s := 1) (by decide) (by decide) z (by omega)
  · rw [ev3] at e
    have h : (2 * z + 1) * (2 * z + 1) = -3 := by grind
    rw [sq_nat] at h; omega
  · rw [ev4] at e
    have h : z * (z * z) = 2 := by omega
    have h2 := congrArg Int.natAbs h
    rw [Int.natAbs_mul, Int.natAbs_mul] at h2
    have h2 : z.natAbs * (z.natAbs * z.natAbs) = 2 := h2
    generalize z.natAbs = n at h2
    by_cases h : n ≤ 1
    · have := Nat.mul_le_mul h (Nat.mul_le_mul h h)
      omega
    · have h : 2 ≤ n := by omega
      have := Nat.mul_le_mul h (Nat.mul_le_mul h h)
      omega
  · rw [ev3] at e
    have h : (2 * z - 5) * (2 * z - 5) = -3 := by grind
    rw [sq_nat] at h; omega
  · rw [ev3] at e
    have h : (2 * z - 1) * (2 * z - 1) = ((5 : Nat) : Int) := by grind
    exact sq_ne (c := 5) (s := 2) (by decide) (by decide) _ h
  · rw [ev3] at e
    exact sq_ne (c := 3 * 10 ^ 40) (s := 173205080756887729352) (by decide) (by decide) z (by omega)
def pI : List Int → List Int → List Int
  | [], q => q
  | p, [] => p
  | a :: p, b :: q => (a + b) :: pI p q
theorem ev_pI : ∀ (p q : List Int) (z : Int), evI (pI p q) z = evI p z + evI q z
  | [], q, z => by show evI q z = 0 + evI q z; omega
  | a :: p, [], z => by show evI (a :: p) z = evI (a :: p) z + 0; omega
  | a :: p, b :: q, z => by
    show (a + b) + z * evI (pI p q) z = (a + z * evI p z) + (b + z * evI q z)
    rw [ev_pI p q z]
    grind
def pm : List Int → List Int → List Int
  | [], _ => []
  | a :: p, q => pI (q.map (a * ·)) (0 :: pm p q)
theorem ev_sc : ∀ (a : Int) (q : List Int) (z : Int), evI (q.map (a * ·)) z = a * evI q z
  | a, [], z => by show (0 : Int) = a * 0; omega
  | a, b :: q, z => by
    show a * b + z * evI (q.map (a * ·)) z = a * (b + z * evI q z)
    rw [ev_sc a q z]
    grind
theorem ev_pm : ∀ (p q : List Int) (z : Int), evI (pm p q) z = evI p z * evI q z
  | [], q, z => by show (0 : Int) = 0 * _; omega
  | a :: p, q, z => by
    show evI (pI (q.map (a * ·)) (0 :: pm p q)) z = (a + z * evI p z) * evI q z
    rw [ev_pI, ev_sc]
    show a * evI q z + (0 + z * evI (pm p q) z) = _
    rw [ev_pm p q z]
    grind
def okK (K : List Int) : Bool := decide (K.length ≤ 7) && decide (smA K ≤ 2 ^ 272) && decide (0 < lead (cs K))
theorem rst_of {K : List Int} (h : okK K = true) (nz : ∀ z, evI K z ≠ 0) : Rst K := by
  unfold okK at h
  simp only [Bool.and_eq_true, decide_eq_true_eq] at h
  exact ⟨nz, h.1.1, h.1.2, h.2⟩
theorem ok1 : restsL.all (fun q => okK (pm [1] q) && decide ((pm [1] q).length = 1 + q.length - 1)) = true := by decide +kernel
theorem ok2 : restsL.all (fun q => restsL.all fun q' => okK (pm (pm [1] q) q') && decide ((pm (pm [1] q) q').length = (pm [1] q).length + q'.length - 1)) = true := by decide +kernel
theorem rest_b : restsL.all (fun q => decide (1 ≤ q.length ∧ q.length ≤ 4) && q.all fun c => decide (c.natAbs < 2 ^ 200)) = true := by decide +kernel
/-- after some rests -/
def Kn : Nat → List Int → Prop
  | 0, K => K = [1]
  | 1, K => ∃ q ∈ restsL, K = pm [1] q
  | _, K => ∃ q ∈ restsL, ∃ q' ∈ restsL, K = pm (pm [1] q) q'
theorem ev_one (z : Int) : evI [1] z = 1 := by show 1 + z * 0 = 1; omega
theorem kn_rst : ∀ {n : Nat} {K : List Int}, Kn n K → Rst K
  | 0, K, h => by
    have h : K = [1] := h
    subst h
    exact rst_of (by decide +kernel) fun z => by rw [ev_one]; decide
  | 1, K, ⟨q, hq, e⟩ => by
    subst e
    have := List.all_eq_true.mp ok1 q hq
    rw [Bool.and_eq_true] at this
    refine rst_of this.1 fun z => ?_
    rw [ev_pm, ev_one, Int.one_mul]
    exact rest_nz q hq z
  | n + 2, K, ⟨q, hq, q', hq', e⟩ => by
    subst e
    have := List.all_eq_true.mp (List.all_eq_true.mp ok2 q hq) q' hq'
    rw [Bool.and_eq_true] at this
    refine rst_of this.1 fun z => ?_
    rw [ev_pm, ev_pm, ev_one, Int.one_mul]
    exact Int.mul_ne_zero (rest_nz q hq z) (rest_nz q' hq' z)
theorem kn_step {n : Nat} {K q : List Int} (h : Kn n K) (hn : n ≤ 1) (hq : q ∈ restsL) : Kn (n + 1) (pm K q) ∧ (pm K q).length = K.length + q.length - 1 := by
  rcases n with _ | _ | n
  · have h : K = [1] := h
    subst h
    have := List.all_eq_true.mp ok1 q hq
    rw [Bool.and_eq_true, decide_eq_true_eq] at this
    exact ⟨⟨q, hq, rfl⟩, this.2⟩
  · obtain ⟨p, hp, rfl⟩ := h
    have := List.all_eq_true.mp (List.all_eq_true.mp ok2 p hp) q hq
    rw [Bool.and_eq_true, decide_eq_true_eq] at this
    exact ⟨⟨p, hp, q, hq, rfl⟩, this.2⟩
  · omega
theorem kn_len : ∀ {n : Nat} {K : List Int}, Kn n K → 1 ≤ n → 2 ≤ K.length
  | 0, _, _, h => by omega
  | 1, K, ⟨q, hq, e⟩, _ => by
    subst e
    have h : restsL.all (fun q => decide (2 ≤ (pm [1] q).length)) = true := by decide +kernel
    exact of_decide_eq_true (List.all_eq_true.mp h q hq)
  | n + 2, K, ⟨q, hq, q', hq', e⟩, _ => by
    subst e
    have h : restsL.all (fun q => restsL.all fun q' => decide (2 ≤ (pm (pm [1] q) q').length)) = true := by decide +kernel
    exact of_decide_eq_true (List.all_eq_true.mp (List.all_eq_true.mp h q hq) q' hq')
theorem rest_bd {q : List Int} (hq : q ∈ restsL) : 1 ≤ q.length ∧ q.length ≤ 4 ∧ ∀ c ∈ q, c.natAbs < 2 ^ 900 := by
  have := List.all_eq_true.mp rest_b q hq
  rw [Bool.and_eq_true, decide_eq_true_eq] at this
  exact ⟨this.1.1, this.1.2, fun c hc => Nat.lt_trans (of_decide_eq_true (List.all_eq_true.mp this.2 c hc)) (Nat.pow_lt_pow_right (by decide) (by decide))⟩
/-! ### products, said by roots -/
theorem prodR_app (r : Int) : ∀ (a : List Int) (z : Int), prodR (a ++ [r]) z = prodR a z * (z - r)
  | [], z => by show (z - r) * 1 = 1 * (z - r); omega
  | s :: a, z => by
    show (z - s) * prodR (a ++ [r]) z = (z - s) * prodR a z * (z - r)
    rw [prodR_app r a z, Int.mul_assoc]
theorem prod_root {L F : List Int} {r : Int} (h1 : F.length = (can [1] L).length + 2 - 1) (h2 : ∀ z, evI F z = evI (can [1] L) z * evI [0 - r, 1] z) : F = can [1] (L ++ [r]) := by
  refine uniq _ _ 0 ?_ fun z _ => ?_
  · rw [h1, len_can, len_can, List.length_append]; simp; omega
  · rw [h2, ev_can, ev_can, prodR_app, ev_one, show evI [0 - r, 1] z = z - r by show (0 - r) + z * (1 + z * 0) = _; grind]
    grind
theorem prod_rest {K L F q : List Int} {n : Nat} (hK : Kn n K) (hn : n ≤ 1) (hq : q ∈ restsL) (h1 : F.length = (can K L).length + q.length - 1) (h2 : ∀ z, evI F z = evI (can K L) z * evI q z) : F = can (pm K q) L := by
  have hk := (kn_step hK hn hq).2
  have := rst_pos (kn_rst hK)
  refine uniq _ _ 0 ?_ fun z _ => ?_
  · rw [h1, len_can, len_can, hk]
    have := (rest_bd hq).1
    omega
  · rw [h2, ev_can, ev_can, ev_pm, Int.mul_assoc]
/-! ### what is due -/
theorem pairs_true : ∀ L : List Int, pairsOf (L.map fun x => D.tup [.int x, .bl true]) = some (kb L)
  | [] => rfl
  | x :: r => by
    show (match pairOf (D.tup [.int x, .bl true]), pairsOf (r.map fun x => D.tup [.int x, .bl true]) with
      | some p, some ps => some (p :: ps)
      | _, _ => none) = _
    rw [pairs_true r]; rfl
theorem dict_true (S : Sto) (L : List Int) : gDict S [.lst (L.map fun x => D.tup [.int x, .bl true])] = some (.dct (kb (L.foldl insK []))) := by
  show (pairsOf (L.map fun x => D.tup [.int x, .bl true])).bind dictOf = _
  rw [pairs_true]
  show dictOf (kb L) = _
  unfold dictOf
  rw [if_pos (by
    rw [List.all_eq_true]
    intro p hp
    obtain ⟨x, _, rfl⟩ := List.mem_map.mp hp
    rfl)]
  rw [show mergeD [] (kb L) = kb (L.foldl insK []) from merge_kb L []]
theorem lay_pairs : ∀ xs : List (Int × Int), PyData.canLayAll0 (xs.map py) = true
  | [] => by simp [PyData.canLayAll0]
  | p :: r => by
    rw [List.map_cons]
    simp only [PyData.canLayAll0, lay_pairs r, Bool.and_true]
    show (PyData.tuple [.int p.1, .int p.2]).canLay0 = true
    simp [PyData.canLay0, PyData.canLayAll0]
theorem eqv_pairs : ∀ xs : List (Int × Int), PyData.eqvAll (xs.map py) (xs.map py) = true
  | [] => by simp [PyData.eqvAll]
  | p :: r => by
    rw [List.map_cons]
    simp only [PyData.eqvAll, eqv_pairs r, Bool.and_true]
    show PyData.eqv (PyData.tuple [.int p.1, .int p.2]) (PyData.tuple [.int p.1, .int p.2]) = true
    simp [PyData.eqv, PyData.eqvAll]
theorem ne_pairs {S : Sto} (xs : List (Int × Int)) {Q : D → Sto → Prop} (h : Q (.bl false) S) : (Res.lift (gNe S (.tup (xs.map toD)) (.tup (xs.map toD))) S).post Q := by
  have sh : SeqAt.shaped (PyData.tuple (xs.map py)) = true := by
    unfold SeqAt.shaped
    have h1 : (PyData.tuple (xs.map py)).canLay0 = true := by simp only [PyData.canLay0]; exact lay_pairs xs
    have h2 : (PyData.tuple (xs.map py)).depth ≤ 64 := Nat.le_trans (dep (κ := List (Int × Int)) xs) (by decide)
    rw [h1, decide_eq_true h2]; rfl
  refine o_neg_ (u := .tuple (xs.map py)) (v := .tuple (xs.map py)) (pyOk S xs) (pyOk S xs) sh sh ?_
  have e : PyData.eqv (PyData.tuple (xs.map py)) (PyData.tuple (xs.map py)) = true := by simp only [PyData.eqv]; exact eqv_pairs xs
  rw [e]
  exact h
theorem count_at {S : Sto} {L : List Int} {x : Int} : pureM gCountI S (.lst (L.map .int)) [.int x] = some (.int (L.count x), S) := by
  have e : gCountI S (.lst (L.map .int)) [.int x] = some (.int ((L.count x : Nat) : Int)) := by
    show (intsD (L.map D.int)).map (fun (ns : List Int) => D.int ((ns.count x : Nat) : Int)) = _
    rw [intsD_map]; rfl
  unfold pureM
  rw [e]; rfl
end DL

set_option Elab.async false
set_option linter.all false
set_option maxRecDepth 100000
set_option maxHeartbeats 4000000
set_option autoImplicit false
/-! k30: the law. -/
namespace DL
open PySem L2
open Emb
local macro_rules | `(tactic| walk_at "1") => `(tactic| with_reducible first
  | refine s_seq ?_ | refine s_asg ?_ | refine s_ret ?_ | refine s_if ?_ | refine s_expr ?_ | refine s_next ?_ | refine s_brk ?_ | refine s_cont ?_ | refine s_for ?_ | refine s_while ?_
  | refine p_c ?_ | refine p_bin ?_ | refine p_as ?_ | refine p_cons ?_ | refine p_nil ?_ | refine p_un ?_ | refine p_call ?_ | refine p_if ?_ | refine p_own ?_
  | refine p_keep ?_ | refine p_tru ?_ | refine p_and ?_ | refine p_or ?_ | refine p_not ?_ | refine p_val ?_ | refine p_rand ?_ | refine p_ror ?_ | refine p_rnot ?_ | refine p_chain ?_ | refine p_bif ?_
  | refine o_add ?_ | refine o_sub ?_ | refine o_ltU ?_ | refine o_leU ?_ | refine o_gtU ?_ | refine o_geU ?_ | refine o_neg ?_ | refine o_eqI ?_ | refine o_neI ?_ | refine o_abs ?_ | refine o_tru ?_ | refine p_true ?_ | refine p_false ?_
  | refine o_lenT ?_ | refine o_lenL ?_ | refine o_ix0 ?_ | refine o_ix1 ?_ | refine o_ix2 ?_ | refine o_ix0L ?_ | refine o_ix1L ?_ | refine o_ix2L ?_
  | refine s_par ?_ | refine p_yes ?_ | refine p_seq ?_ | refine s_gnil ?_ | refine s_gcons ?_ | refine s_gtux ?_ | refine s_gtupl ?_ | refine p_onone ?_ | refine p_osome ?_ | refine p_get2 ?_ | refine s_putU ?_ | refine p_sortIt ?_)
local macro_rules | `(tactic| walk_at "2") => `(tactic| first
  | walk_at "1"
  | (with_reducible refine p_var2 ?_)
  | ((with_reducible refine s_name ?_ ?_); (· exact Nat.le_of_ble_eq_true rfl); dsimp only [List.set_cons_zero, List.set_cons_succ])
  | (with_reducible refine p_tup ?_) | (with_reducible refine p_lst ?_) | ((with_reducible refine ⟨?_, ?_⟩); (· exact Nat.le_of_ble_eq_true rfl))
  | ((with_reducible refine p_ex2 (x := ?_) (y := ?_) ?_ ?_); rotate_left; rotate_left; (· rfl); refine ⟨?_, ?_, ?_⟩; (· exact Nat.le_of_ble_eq_true rfl); (· exact Nat.le_of_ble_eq_true rfl); dsimp only [List.set_cons_zero, List.set_cons_succ])
  | ((with_reducible refine p_isT ?_ ?_); (· rfl)) | ((with_reducible refine p_isF ?_ ?_); (· rfl))
  | ((with_reducible refine p_ex (x := ?_) ?_ ?_); rotate_left; (· rfl)))
local macro_rules | `(tactic| walk_at "3") => `(tactic| repeat walk_at "2")
open PR
theorem cut_mapI {A B : Type} (f : A → B) (xs : List A) (lo hi : Option Int) : cutD (xs.map f) lo hi = (cutD xs lo hi).map f := by
  unfold cutD
  rw [List.length_map, ← List.map_drop, ← List.map_take]
theorem cut8_len {A : Type} (xs : List A) : (cutD xs none (some 8)).length ≤ 8 := by
  unfold cutD
  rw [List.length_take, show (8 : Int) = ((8 : Nat) : Int) from rfl, HT.sIx_nat]
  omega
theorem sane_non {S : Sto} {k : Nat} (h : Sane S) : Sane (S.set k .non) := sane_set h rfl
/-- a list in the store, new -/
theorem sane_lst {S : Sto} {k : Nat} {l : List Int} (h : Sane S) : Sane (S.set k (.lst (l.map .int))) := sane_set h (closed_ints' _)
theorem ix_rest {S : Sto} {i : Int} {Q : D → Sto → Prop} (h0 : 0 ≤ i) (h1 : i < 7) (h : ∀ q ∈ restsL, Q (.lst (q.map .int)) S) : (Res.lift (gIx S (.lst (restsL.map fun q => D.lst (q.map .int))) (.int i)) S).post Q := by
  obtain ⟨n, rfl⟩ := Int.eq_ofNat_of_zero_le h0
  have hq : n < restsL.length := by show n < 7; omega
  refine o_ixL (d := .lst (restsL[n].map .int)) ?_ (h _ (List.getElem_mem hq))
  refine atI_nat ?_
  rw [List.getElem?_map, List.getElem?_eq_getElem hq]
  rfl
theorem b90 {a : Nat} (h : a < 2 ^ 800) : a < 2 ^ 900 := Nat.lt_trans h (Nat.pow_lt_pow_right (by decide) (by decide))
theorem dr_app {S : Sto} {j : Nat} {d : D} (h : Dr S j) : Dr (S ++ [d]) j := by
  obtain ⟨r, i, e, hr⟩ := h
  have hlt := (List.getElem?_eq_some_iff.mp e).1
  exact ⟨r, i, by rw [List.getElem?_append_left hlt]; exact e, hr⟩
theorem law_spec (ns : List Int) (hn : ns.length ≤ 63) : ∃ S, m_law [.lst (ns.map .int)] [] = .ok (.bl true) S := by
  refine ⟨[], same_of (m_def ?_)⟩
  have sl : 16000000 ≤ sizeLine := by decide
  show (b_law [some (.lst (ns.map .int)), none, none, none, none, none, none, none, none, none, none, none, none] []).post _ _ _ _
  unfold b_law
  have hcs : ∃ cs : List Int, cs.length ≤ 8 ∧ (rCut (rOr (rVar 0) (rKeep (rLst (rCons (rC (.int 4)) rNil)))) oNone (oSome (rC (.int 8)))) [some (.lst (ns.map .int)), none, none, none, none, none, none, none, none, none, none, none, none] [] = .ok (.lst (cs.map .int)) [] := by
    refine ⟨cutD (if ns = [] then [4] else ns) none (some 8), cut8_len _, exact_of ?_⟩
    refine p_cutP ?_
    refine p_ror ?_
    refine p_var rfl ⟨!(ns.map D.int).isEmpty, rfl, fun h => ?_, fun h => ?_⟩
    · have hne : ns ≠ [] := fun e => by rw [e] at h; cases h
      walk_at "3"
      rw [if_neg hne, cut_mapI]
      exact ⟨rfl, rfl⟩
    · have hne : ns = [] := by simpa using h
      walk_at "3"
      rw [if_pos hne]
      rw [← cut_mapI]
      exact ⟨rfl, rfl⟩
  obtain ⟨cs, hc8, ecs⟩ := hcs
  refine s_seq ?_
  refine s_for ?_
  refine p_enum ?_
  refine p_cons ?_
  refine Res.post.of_eq ecs ?_
  refine p_nil ⟨_, rfl, ?_⟩
  rw [enum_P]
  refine s_forT (fun q : Nat × Int => D.tux [.int q.1, .int q.2]) (fun xs δ S2 => (∀ q ∈ xs, q.1 < 8) ∧ Sane S2 ∧ ∃ o1 o2 o3 o4 o5 o6 o7 o8 o9 o10 o11 o12 : Option D, δ = [some (.lst (ns.map .int)), o1, o2, o3, o4, o5, o6, o7, o8, o9, o10, o11, o12]) ?_ ?_ _ _ _ ⟨fun q hq => by have := (enP_mem 0 cs hq).1; omega, rfl, _, _, _, _, _, _, _, _, _, _, _, _, rfl⟩
  · rintro ⟨k, cell⟩ xs δ S2 ⟨hk, hS, o1, o2, o3, o4, o5, o6, o7, o8, o9, o10, o11, o12, rfl⟩
    have hk8 := hk _ List.mem_cons_self
    dsimp only at hk8
    have hk' : ∀ q ∈ xs, q.1 < 8 := fun q hq => hk q (List.mem_cons_of_mem _ hq)
    clear hk
    show (gTup _ (.tux [.int k, .int cell]) _ _).post _
    walk_at "3"
    refine o_catI (a := [cell]) (b := ns) (by simp; omega) ?_
    walk_at "3"
    rw [show (2 : Int) + (k : Int) = ((2 + k : Nat) : Int) by omega]
    refine (lbegun_spec (cs := [cell] ++ ns) (m := 2 + k) (by simp; omega) (by omega) (by omega) S2 hS).mono ?_
    rintro z S3 ⟨rfl, r, i, hr, rfl⟩
    have hS3 : Sane (S2 ++ [drw r i]) := sane_app hS rfl
    have hj3 : Dr (S2 ++ [drw r i]) S2.length := ⟨r, i, get_app, hr⟩
    have hlt : S2.length < (S2 ++ [drw r i]).length := by simp
    generalize S2.length = j at *
    generalize S2 ++ [drw r i] = S3 at *
    walk_at "3"
    have hS4 : Sane (S3 ++ [D.lst []]) := sane_app hS3 rfl
    have hj4 : Dr (S3 ++ [D.lst []]) j := by
      obtain ⟨r, i, e, hr⟩ := hj3
      exact ⟨r, i, by rw [List.getElem?_append_left hlt]; exact e, hr⟩
    have hL4 : (S3 ++ [D.lst []])[S3.length]? = some (.lst (([] : List Int).map .int)) := get_app
    have hne : S3.length ≠ j := by omega
    generalize S3.length = kR at *
    generalize S3 ++ [D.lst []] = S4 at *
    with_reducible refine p_range1 ?_
    walk_at "3"
    refine (lnext_spec (by decide) (by decide) S4 hS4 hj4).mono ?_
    rintro z S5 ⟨⟨n, rfl, n0, n1⟩, mv⟩
    obtain ⟨n, rfl⟩ := Int.eq_ofNat_of_zero_le n0
    walk_at "3"
    refine ⟨by omega, by omega, ?_⟩
    rw [rangeD_nat]
    have hS5 := mv.sane hS4
    have hj5 := mv.dr hj4
    have hL5 : S5[kR]? = some (.lst (([] : List Int).map .int)) := by rw [mv.at hne]; exact hL4
    refine s_forT (fun i : Nat => D.int i) (fun xs δ S2 => ∃ (L : List Int) (o5 : Option D), Sane S2 ∧ Dr S2 j ∧ S2[kR]? = some (.lst (L.map .int)) ∧ L.length + xs.length ≤ 5 ∧ (∀ r ∈ L, -(10 ^ 30 + (L.length : Int)) ≤ r ∧ r ≤ 10 ^ 30 + (L.length : Int)) ∧ δ = [some (.lst (ns.map .int)), some (.int k), some (.int cell), some (.ptr j), some (.ptr kR), o5, o6, o7, o8, o9, o10, o11, o12]) ?_ ?_ _ _ _ ⟨[], _, hS5, hj5, hL5, by rw [List.length_range]; simp; omega, (fun _ h => nomatch h), rfl⟩
    · rintro i ys δ S6 ⟨L, o5, hS6, hj6, hL6, hlen, hb, rfl⟩
      rw [List.length_cons] at hlen
      walk_at "3"
      refine p_append2 rfl hL6 ?_
      walk_at "3"
      refine (lroot_spec (B := 10 ^ 30 + (L.length : Int)) (by omega) hb (by omega) S6 hS6 hj6 hL6 hne).mono ?_
      rintro z S7 ⟨⟨v, rfl, v0, v1⟩, mv7⟩
      have hL7 : S7[kR]? = some (.lst (L.map .int)) := by rw [mv7.at hne]; exact hL6
      have hlt7 := (List.getElem?_eq_some_iff.mp hL7).1
      refine ⟨_, hL7, by rw [List.length_map]; omega, ?_⟩
      rw [show L.map D.int ++ [D.int v] = (L ++ [v]).map D.int by rw [List.map_append]; rfl]
      refine ⟨L ++ [v], _, sane_lst (mv7.sane hS6), ?_, by rw [List.getElem?_set_self hlt7], by rw [List.length_append]; simp; omega, fun r hr => ?_, rfl⟩
      · obtain ⟨r, i, e, hr⟩ := mv7.dr hj6
        exact ⟨r, i, by rw [List.getElem?_set_ne hne]; exact e, hr⟩
      · rw [List.length_append]
        rcases List.mem_append.mp hr with h | h
        · have := hb r h; simp; omega
        · rw [List.mem_singleton.mp h]; simp; omega
    rintro δ S6 ⟨L, o5, hS6, hj6, hL6, hlen, hb, rfl⟩
    rw [List.length_nil] at hlen
    have hR : ∀ a : List Int, (∀ r ∈ a, r ∈ L) → a.length ≤ 5 → Rts a := fun a ha hl => ⟨hl, fun r hr => by
      have := hb r (ha r hr)
      have p : (10 : Int) ^ 30 + 10 < 2 ^ 104 := by decide
      omega⟩
    have hRL := hR L (fun _ h => h) (by omega)
    refine s_seq ?_
    refine s_freeze2 rfl hL6 ?_
    have hS7 := sane_non (k := kR) hS6
    have hj7 : Dr (S6.set kR .non) j := by
      obtain ⟨r, i, e, hr⟩ := hj6
      exact ⟨r, i, by rw [List.getElem?_set_ne hne]; exact e, hr⟩
    generalize S6.set kR D.non = S7 at *
    dsimp only [List.set_cons_zero, List.set_cons_succ]
    walk_at "3"
    refine .inl ⟨_, rfl, ?_⟩
    refine s_forT D.int (fun xs δ T => ∃ (dn : List Int) (o7 : Option D), L = dn ++ xs ∧ T = S7 ∧ δ = [some (.lst (ns.map .int)), some (.int k), some (.int cell), some (.ptr j), some (.lst (L.map .int)), o5, some (.lst ((can [1] dn).map .int)), o7, o8, o9, o10, o11, o12]) ?_ ?_ _ _ _ ⟨[], _, rfl, rfl, rfl⟩
    · rintro x ys δ T ⟨dn, o7, he, rfl, rfl⟩
      have hdl : dn.length + 1 ≤ 5 := by rw [he, List.length_append, List.length_cons] at hlen; omega
      have hdn := hR dn (fun r hr => by rw [he]; exact List.mem_append_left _ hr) (by omega)
      have hx := hRL.sz x (by rw [he]; exact List.mem_append_right _ List.mem_cons_self)
      have hR1 : Rst [1] := kn_rst (n := 0) rfl
      have cl : (can [1] dn).length = 1 + dn.length := len_can [1] dn
      have p9 : (2 : Nat) ^ 104 < 2 ^ 900 := Nat.pow_lt_pow_right (by decide) (by decide)
      walk_at "3"
      refine (lproduct_spec (a := can [1] dn) (b := [0 - x, 1]) (by omega) (by simp) (by rw [cl]; simp; omega) (fun c hc => b90 (can_b hR1 hdn c hc)) (fun c hc => ?_) T hS7).mono ?_
      · simp only [List.mem_cons, List.not_mem_nil, or_false] at hc
        rcases hc with rfl | rfl <;> omega
      rintro z T ⟨⟨F, rfl, hF1, hF2⟩, rfl⟩
      have eF := prod_root (L := dn) (r := x) hF1 hF2
      subst eF
      walk_at "3"
      exact ⟨dn ++ [x], _, by rw [he, List.append_assoc]; rfl, rfl, rfl⟩
    rintro δ T ⟨dn, o7, he, rfl, rfl⟩
    rw [List.append_nil] at he
    subst he
    walk_at "3"
    refine pow6 (δ := []) (n := 40) (by decide) ?_
    refine o_mul (fits_l (by decide)) ?_
    walk_at "3"
    refine (lnext_spec (by decide) (by decide) T hS7 hj7).mono ?_
    rintro z S8 ⟨⟨m, rfl, m0, m1⟩, mv8⟩
    have hS8 := mv8.sane hS7
    have hj8 := mv8.dr hj7
    obtain ⟨m, rfl⟩ := Int.eq_ofNat_of_zero_le m0
    walk_at "3"
    with_reducible refine p_range1 ?_
    refine Res.post.mono (?_ : Res.post _ (fun (z : List D) S' => S' = S8 ∧ ∃ c : Nat, z = [.int c] ∧ c ≤ 2 ∧ (L = [] → 1 ≤ c))) fun z S' ⟨es, c, ez, c2, cL⟩ => ?_
    · walk_at "3"
      refine o_eqIs (ms := []) ?_
      refine ⟨decide (L = []), rfl, fun h => ?_, fun h => ?_⟩
      · walk_at "3"
        refine p_lift (a := .int (if ((m : Int) == 0) then 1 else 0)) rfl ?_
        walk_at "3"
        by_cases z : m = 0
        · subst z
          exact ⟨rfl, 1, rfl, by decide, fun _ => by decide⟩
        · rw [if_neg (by simpa using z)]
          exact ⟨rfl, m, by rw [Int.add_zero], by omega, fun _ => by omega⟩
      · have h : ¬ L = [] := of_decide_eq_false h
        walk_at "3"
        refine p_lift (a := .int (if decide (L = []) then 1 else 0)) rfl ?_
        walk_at "3"
        rw [if_neg (by simpa using h)]
        exact ⟨rfl, m, by rw [Int.add_zero], by omega, fun e => absurd e h⟩
    subst es ez
    refine ⟨_, rfl, by omega, by omega, ?_⟩
    rw [rangeD_nat]
    refine s_forT (fun i : Nat => D.int i) (fun xs δ T => ∃ (n : Nat) (K : List Int) (o5 : Option D), Kn n K ∧ n + xs.length = c ∧ Sane T ∧ Dr T j ∧ δ = [some (.lst (ns.map .int)), some (.int k), some (.int cell), some (.ptr j), some (.lst (L.map .int)), o5, some (.lst ((can K L).map .int)), o7, some (.lst (restsL.map fun q => D.lst (q.map .int))), some (.int m), o10, o11, o12]) ?_ ?_ _ _ _ ⟨0, [1], _, rfl, by rw [List.length_range]; omega, hS8, hj8, rfl⟩
    · rintro i ys δ T ⟨n, K, o5, hK, hn, hST, hjT, rfl⟩
      rw [List.length_cons] at hn
      have hrK := kn_rst hK
      have cl : (can K L).length = K.length + L.length := len_can K L
      have kp := rst_pos hrK
      have k7 := hrK.len
      walk_at "3"
      refine (lnext_spec (by decide) (by decide) T hST hjT).mono ?_
      rintro z T2 ⟨⟨i, rfl, i0, i1⟩, mvT⟩
      refine ix_rest i0 i1 fun q hq => ?_
      obtain ⟨q1, q4, qb⟩ := rest_bd hq
      walk_at "3"
      refine (lproduct_spec (a := can K L) (b := q) (by omega) q1 (by omega) (fun c hc => b90 (can_b hrK hRL c hc)) qb T2 (mvT.sane hST)).mono ?_
      rintro z T3 ⟨⟨F, rfl, hF1, hF2⟩, rfl⟩
      have eF := prod_rest (L := L) hK (by omega) hq hF1 hF2
      subst eF
      walk_at "3"
      exact ⟨n + 1, pm K q, _, (kn_step hK (by omega) hq).1, by omega, mvT.sane hST, mvT.dr hjT, rfl⟩
    rintro δ T ⟨n, K, o5, hK, hn, hST, hjT, rfl⟩
    have hn : n = c := by simpa using hn
    subst hn
    have hrK := kn_rst hK
    have h2 : 2 ≤ K.length + L.length := by
      by_cases e : L = []
      · have := kn_len hK (cL e); omega
      · have := List.length_pos_iff.mpr e
        have := rst_pos hrK
        omega
    have hLl : (L.foldl insK []).length ≤ 5 := by
      have := sub_len (a := L.foldl insK []) (b := L) (nd_fold List.nodup_nil) fun x hx => by
        rcases mem_fold.mp hx with h | h
        · nomatch h
        · exact h
      omega
    walk_at "3"
    refine p_lc ?_
    refine p_seq ?_
    walk_at "3"
    refine p_lc ?_
    refine p_seq ?_
    walk_at "3"
    refine .inl ⟨_, rfl, ?_⟩
    dsimp only [wipeD, List.set_cons_zero, List.set_cons_succ]
    refine Res.post.of_eq (lcTm (xs := L) D.int (fun x : Int => D.tup [.int x, .bl true]) (fun x => x) fun x hx => ⟨_, rfl, ?_⟩) ⟨by rw [List.length_map, List.length_map]; omega, ?_⟩
    · refine exact_of ?_
      walk_at "3"
      exact ⟨rfl, rfl⟩
    rw [List.map_id']
    walk_at "3"
    refine p_lift (dict_true _ L) ?_
    walk_at "3"
    refine p_lift (sort_kb get_app) ?_
    walk_at "3"
    have hS9 : Sane (T ++ [D.dct (kb (L.foldl insK []))]) := sane_app hST (kb_closed _ _)
    generalize T ++ [D.dct (kb (L.foldl insK []))] = T9 at *
    refine .inl ⟨_, rfl, ?_⟩
    refine Res.post.of_eq (lcTm (xs := sortI (L.foldl insK [])) D.int toD (fun x => ((x, (L.count x : Int)) : Int × Int)) fun x hx => ⟨_, rfl, ?_⟩) ⟨by rw [List.length_map, List.length_map, (sortI_perm _).length_eq]; omega, ?_⟩
    · refine exact_of ?_
      walk_at "3"
      refine p_meth ?_
      walk_at "3"
      refine ⟨rfl, ?_⟩
      walk_at "3"
      refine ⟨_, _, count_at, ?_⟩
      walk_at "3"
      exact ⟨rfl, rfl⟩
    rw [show (sortI (L.foldl insK [])).map (fun x => ((x, (L.count x : Int)) : Int × Int)) = outP L (rootsOf L) from rfl]
    walk_at "3"
    refine p_lift (a := .tup ((outP L (rootsOf L)).map toD)) rfl ?_
    walk_at "3"
    with_reducible refine p_range1 ?_
    walk_at "3"
    refine p_lift (a := .int (if ((k : Int) == 0) then 1 else 0)) rfl ?_
    walk_at "3"
    refine ⟨by split <;> omega, by split <;> omega, ?_⟩
    refine s_forL (fun _ δ T => T = T9 ∧ ∃ o5 o11 o12 : Option D, δ = [some (.lst (ns.map .int)), some (.int k), some (.int cell), some (.ptr j), some (.lst (L.map .int)), o5, some (.lst ((can K L).map .int)), o7, some (.lst (restsL.map fun q => D.lst (q.map .int))), some (.int m), some (.tup ((outP L (rootsOf L)).map toD)), o11, o12]) ?_ ?_ _ _ _ ⟨rfl, _, _, _, rfl⟩
    · rintro x ys δ T ⟨rfl, o5, o11, o12, rfl⟩
      walk_at "3"
      refine p_lift (a := .tup ((can K L).map .int)) rfl ?_
      walk_at "3"
      refine Res.post.of_eq (whole_roots_spec hrK hRL h2 _ hS9) ?_
      walk_at "3"
      have ol : (outP L (rootsOf L)).length ≤ 5 := by
        unfold outP rootsOf
        rw [List.length_map, (sortI_perm _).length_eq]; exact hLl
      generalize outP L (rootsOf L) = os at *
      refine p_lift (a := .bl true) rfl ?_
      walk_at "3"
      refine ne_pairs os ?_
      walk_at "3"
      refine p_lc ?_
      refine p_seq ?_
      walk_at "3"
      refine .inr (.inl ⟨_, rfl, ?_⟩)
      refine Res.post.of_eq (lcTm (xs := os) toD D.bl (fun _ => true) fun p hp => ⟨_, rfl, ?_⟩) ⟨by rw [List.length_map, List.length_map]; omega, ?_⟩
      · refine exact_of ?_
        walk_at "3"
        refine p_lift (a := .bl true) rfl ?_
        exact ⟨rfl, rfl⟩
      walk_at "3"
      refine p_lift (a := .bl true) (by
        show (asBls ((os.map fun _ => true).map .bl)).map (fun bs => D.bl (bs.all id)) = _
        rw [asBls_map]
        show some (D.bl ((os.map fun _ => true).all id)) = _
        rw [show (os.map fun _ => true).all id = true by simp]) ?_
      walk_at "3"
      refine p_lc ?_
      refine p_seq ?_
      walk_at "3"
      refine .inr (.inl ⟨_, rfl, ?_⟩)
      refine Res.post.of_eq (lcTf (xs := os) toD toD (fun _ => false) fun p hp => ⟨_, rfl, ?_, fun z => nomatch z⟩) ⟨by rw [List.length_map, show os.filter (fun _ => false) = [] from List.filter_eq_nil_iff.mpr (by simp)]; exact Nat.zero_le _, ?_⟩
      · refine exact_of ?_
        show ((bOr _ _) _ _).post _
        rw [toD_pair, toD_int, toD_int]
        walk_at "3"
        refine p_lift (a := .bl false) rfl ?_
        walk_at "3"
        refine p_lift (a := .bl false) rfl ?_
        walk_at "3"
        exact ⟨rfl, rfl⟩
      rw [show os.filter (fun _ => false) = [] from List.filter_eq_nil_iff.mpr (by simp)]
      walk_at "3"
      refine o_neIs (ns := []) (ms := []) ?_
      walk_at "3"
      exact ⟨rfl, _, _, _, rfl⟩
    · rintro δ T ⟨rfl, o5, o11, o12, rfl⟩
      exact ⟨hk', hS9, _, _, _, _, _, _, _, _, _, _, _, _, rfl⟩
  · rintro δ S2 ⟨hk, hS, o1, o2, o3, o4, o5, o6, o7, o8, o9, o10, o11, o12, rfl⟩
    walk_at "3"
    exact ⟨rfl, rfl, rfl⟩
end DL

set_option Elab.async false
set_option linter.all false
set_option maxRecDepth 100000
set_option maxHeartbeats 0
set_option autoImplicit false
namespace DL
open PySem PySem.Spec PyProof.Rows L2
abbrev R : PySem.W.OpenRow := PySem.W.OpenLaw.row PySem.Challenge.rw_roundless_k30_whole_roots
abbrev hk : PySem.W.Hook := hookL 4 fa fn li
def ob (s : PySem.W.SharedT) : He.AlD := obsLG 4 fa fn li (HandSHeadRun.getT s)
theorem ob_eq (s : PySem.W.SharedT) : ob s = hk.obs s.abs   := obsLG_eq (HandSHeadRun.getT_eq s)
def loose : List Str := "poly_at" :: "slope_of" :: "crossed" :: "spots_between" :: "spots_of" :: "divided" :: "whole_roots" :: "_law_mixed" :: "_law_begun" :: "_law_next" :: "_law_around" :: "_law_root" :: "_law_product" :: []
theorem run (w : World) : HandSHeadRun.RunEq R (PySem.W.view R.prog [15]) hk ob 2000 loose w := by
  intro os
  kernel_rfl
end DL
open PySem PySem.W PySem.Calls PyProof.Rows
theorem DL.holds_of (hm : ∀ ns : List Int, ns.length ≤ 63 → ∃ S, DL.m_law [.lst (ns.map .int)] [] = .ok (.bl true) S) : PySem.Challenge.rw_roundless_k30_whole_roots.Holds := by
  w_on; o_law
  refine HandSHeadRun.head_any (r := OpenLaw.row PySem.Challenge.rw_roundless_k30_whole_roots) (q := view (OpenLaw.row PySem.Challenge.rw_roundless_k30_whole_roots).prog [15]) (H := DL.hk) (ob := DL.ob) (M := 2000) (loose := DL.loose) (d := HandSHeadRun.topDef (OpenLaw.row PySem.Challenge.rw_roundless_k30_whole_roots).prog 15) (kwd := []) DL.ob_eq
    (by kernel_rfl) (fun s => by kernel_rfl) DL.run (by kernel_rfl) (by kernel_rfl) (by kernel_rfl) (by rfl) (by first | assumption | decide +kernel) (by decide +kernel) ⟨rfl, rfl, rfl, rfl, rfl, by decide +kernel⟩ ?hw ?hc
  case hw => w_witness2
  case hc =>
    refine DL.walkG (l := PySem.Challenge.rw_roundless_k30_whole_roots) (n := 63) (k := 6) (m := DL.m_law) rfl (by decide) (by kernel_rfl) ⟨rfl, by decide, by decide⟩ ?F hm
    intro w mg h Y G
    obtain ⟨K, KX, c⟩ := Y
    have e : (HandSHeadRun.topDef (OpenLaw.row PySem.Challenge.rw_roundless_k30_whole_roots).prog 15).name = ("law" : PySem.Str) := by kernel_rfl
    refine ⟨K, KX, fun base _ _ => ?_⟩
    rw [e]
    exact DL.ok_law (DL.txt KX G (DL.SaysL.all c).1 (DL.SaysL.all c).2.1 (DL.SaysL.all c).2.2)

open PySem PySem.W PyProof.Rows
theorem PySem.Challenge.cw_roundless_k30_whole_roots_holds : PySem.Challenge.rw_roundless_k30_whole_roots.Holds := by
  exact DL.holds_of fun ns h => DL.law_spec ns h
