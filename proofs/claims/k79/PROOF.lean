import PyProof.Rows.All
import Wide.All
import OpenK.AllK
import Wide.FinOn
import HandS.ForMost
import HandS.ForExc
import HandS.Flow
import HandS.IsInst
import HandS.Wide
import KE.KeyNested
import HandS.TupAny
import HandS.Lambda
import HandS.HeadHook1
import HandS.Style
import KE.IntBitsLaws
import HandS.NoneIn
import HandS.StrMore
import HandS.RaiseMore
import PyProof.ListStr
import HandS.More
import HandS.Conv
import HandS.HeadHook2
import HandS.HeadEnd
import HandS.Head0
import HandS.Head1
import HandS.Head2
import HandS.Ends
import PyProof.DictRoadsH
import KE.KDictPairs
import KE.KDictWalk
import KE.DataCmp
import KE.SortData
import HandS.DictTup
import HandS.SetTxt0
import HandS.SetFor
import HandS.TupSets
import KE.KRevSl
import HandS.Zip
import PyProof.Rows.Digits
import PyProof.ReprReads
import KE.KEqDict
import HandS.Finally
import HandS.SortInts
import KE.GoesEnum
import PyProof.Rows.SeqMore
import KE.GoesMore
import KE.GoesZip
import HandS.TupLen
import KE.KDictDisplayH
import HandS.TupMul
import HandS.ExcInit
import HandS.ExcOwn
import HandS.ExcIs
import HandS.ExcField
import HandS.ClsMeth
import HandS.WordsExc
import KE.KExcIs
import PyProof.SumWalkG
import PyProof.Rows.SumAny
import KE.DataMinMax
import KE.DataFind
import KE.KDictCopyH
import PyProof.Transfer
import PyProof.Rows.TupAdd
import HandS.Spec
import PyProof.NeKinds
import HandS.EndTab
import KE.KNestM
import HandS.IntHex
import PySem.Challenge.RW_roundless_k79_programs_refused
import KE.KStateDown
import KE.IntTextLaws
import PyProof.StrLawsRepr
import PyProof.ReprText
import KE.KEqSeq
set_option Elab.async false
set_option linter.all false
set_option maxRecDepth 100000
set_option maxHeartbeats 4000000
/-! Data layer, first part: data, results, mirrors of expressions and statements (plain Lean). -/
namespace DL
open PySem PySem.Spec PyProof.Rows L2
/-- a thing as data: what is never changed stands as a whole, what may be changed stands by its number in the store -/
inductive D where
  | non | bl (b : Bool) | int (i : Int) | str (x : Str)
  | tup (xs : List D) | lst (xs : List D) | dct (kvs : List (D × D)) | dcn (kvs : List (D × D))
  | ptr (k : Nat) | fn (x : Str) | ty (n : String) | lck (d : D) | tux (xs : List D) | exc (c : Str) (fs : List (D × D)) | dc0 (d : D)
  | lam (f c : Addr) (q : Str) (vs : List V) (ds : List D)
  deriving Inhabited
abbrev Sl := List (Option D)
abbrev Sto := List D
inductive Res (A : Type) where
  | ok (a : A) (S : Sto)
  | err (c : Str) (fs : List (Str × D)) (S : Sto)
  | stuck
abbrev RE := Sl → Sto → Res D
abbrev RB := Sl → Sto → Res Bool
abbrev RA := Sl → Sto → Res (List D)
abbrev RG := D → Sl → Sto → Res Sl
abbrev Mir := List D → Sto → Res D
inductive Out where
  | nx (δ : Sl) (S : Sto) | rt (d : D) (S : Sto) | bk (δ : Sl) (S : Sto) | ct (δ : Sl) (S : Sto)
  | err (c : Str) (fs : List (Str × D)) (δ : Sl) (S : Sto) | stuck
abbrev RS := Sl → Sto → Out
def Res.bind {A B : Type} (r : Res A) (f : A → Sto → Res B) : Res B := match r with
  | .ok a S => f a S
  | .err c fs S => .err c fs S
  | .stuck => .stuck
def Res.out (δ : Sl) {A : Type} (r : Res A) (f : A → Sto → Out) : Out := match r with
  | .ok a S => f a S
  | .err c fs S => .err c fs δ S
  | .stuck => .stuck
def Res.lift {A : Type} (o : Option A) (S : Sto) : Res A := match o with
  | some a => .ok a S
  | none => .stuck
def deref (S : Sto) : D → D
  | .ptr k => match S.getD k .non with
    | .non => .ptr k
    | .lam _ _ _ _ _ => .ptr k
    | .exc _ _ => .ptr k
    | .lck d => d
    | d => d
  | d => d
/-! expressions -/
def rVar (i : Nat) : RE := fun δ S => match δ[i]? with
  | some (some d) => .ok d S
  | _ => .stuck
def rC (d : D) : RE := fun _ S => .ok d S
def rUn (g : Sto → D → Option D) (a : RE) : RE := fun δ S => (a δ S).bind fun x S1 => .lift (g S1 x) S1
def rBin (g : Sto → D → D → Option D) (a b : RE) : RE := fun δ S => (a δ S).bind fun x S1 => (b δ S1).bind fun y S2 => .lift (g S2 x y) S2
def rAs (g : Sto → List D → Option D) (a : RA) : RE := fun δ S => (a δ S).bind fun x S1 => .lift (g S1 x) S1
def rNil : RA := fun _ S => .ok [] S
def rCons (a : RE) (b : RA) : RA := fun δ S => (a δ S).bind fun x S1 => (b δ S1).bind fun ys S2 => .ok (x :: ys) S2
def rCall (m : Mir) (a : RA) : RE := fun δ S => (a δ S).bind m
def rIf (c : RB) (a b : RE) : RE := fun δ S => (c δ S).bind fun k S1 => if k then a δ S1 else b δ S1
def rOwn (a : RE) : RE := fun δ S => (a δ S).bind fun d S1 => .ok (.ptr S1.length) (S1 ++ [d])
def rTup (a : RA) : RE := fun δ S => (a δ S).bind fun xs S1 => if xs.length ≤ sizeLine then .ok (.tup xs) S1 else .stuck
def rLst (a : RA) : RE := fun δ S => (a δ S).bind fun xs S1 => if xs.length ≤ sizeLine then .ok (.lst xs) S1 else .stuck
def truth (S : Sto) (d : D) : Option Bool := match deref S d with
  | .non => some false
  | .bl b => some b
  | .int i => some (i != 0)
  | .str y => if y.length ≤ sizeLine then some ((y.length : Int) != 0) else none
  | .tup xs => some (!xs.isEmpty)
  | .lst xs => some (!xs.isEmpty)
  | _ => none
/-! tests -/
def bTru (a : RE) : RB := fun δ S => (a δ S).bind fun x S1 => .lift (truth S1 x) S1
def bAnd (a b : RB) : RB := fun δ S => (a δ S).bind fun k S1 => if k then b δ S1 else .ok false S1
def bOr (a b : RB) : RB := fun δ S => (a δ S).bind fun k S1 => if k then .ok true S1 else b δ S1
def bNot (a : RB) : RB := fun δ S => (a δ S).bind fun k S1 => .ok (!k) S1
/-! and, or, not as values -/
def rAnd (a b : RE) : RE := fun δ S => (a δ S).bind fun x S1 => (Res.lift (truth S1 x) S1).bind fun k S2 => if k then b δ S2 else .ok x S2
def rOr (a b : RE) : RE := fun δ S => (a δ S).bind fun x S1 => (Res.lift (truth S1 x) S1).bind fun k S2 => if k then .ok x S2 else b δ S2
def rNot (a : RE) : RE := fun δ S => (a δ S).bind fun x S1 => (Res.lift (truth S1 x) S1).bind fun k S2 => .ok (.bl (!k)) S2
/-! targets -/
def gName (i : Nat) : RG := fun d δ S => if i < δ.length then .ok (δ.set i (some d)) S else .stuck
def gNil : List D → Sl → Sto → Res Sl := fun ds δ S => match ds with
  | [] => .ok δ S
  | _ => .stuck
def gCons (g : RG) (u : List D → Sl → Sto → Res Sl) : List D → Sl → Sto → Res Sl := fun ds δ S => match ds with
  | d :: r => (g d δ S).bind fun δ1 S1 => u r δ1 S1
  | [] => .stuck
def gTup (u : List D → Sl → Sto → Res Sl) : RG := fun d δ S => match deref S d with
  | .tup ds => u ds δ S
  | .tux ds => u ds δ S
  | _ => .stuck
/-! statements -/
def sNext : RS := fun δ S => .nx δ S
def sSeq (a b : RS) : RS := fun δ S => match a δ S with
  | .nx δ1 S1 => b δ1 S1
  | o => o
def sAsg (e : RE) (g : RG) : RS := fun δ S => (e δ S).out δ fun d S1 => (g d δ S1).out δ fun δ1 S2 => .nx δ1 S2
def sExpr (e : RE) : RS := fun δ S => (e δ S).out δ fun _ S1 => .nx δ S1
def sRet (e : RE) : RS := fun δ S => (e δ S).out δ fun d S1 => .rt d S1
def sIf (c : RB) (a b : RS) : RS := fun δ S => (c δ S).out δ fun k S1 => if k then a δ S1 else b δ S1
def sBreak : RS := fun δ S => .bk δ S
def sCont : RS := fun δ S => .ct δ S
def sNever : RS := fun _ _ => .stuck
def forL (g : RG) (b : RS) : List D → RS
  | [], δ, S => .nx δ S
  | x :: xs, δ, S => (g x δ S).out δ fun δ1 S1 => match b δ1 S1 with
    | .nx δ2 S2 => forL g b xs δ2 S2
    | .ct δ2 S2 => forL g b xs δ2 S2
    | .bk δ2 S2 => .nx δ2 S2
    | o => o
def sFor (it : RA) (g : RG) (b : RS) : RS := fun δ S => (it δ S).out δ fun xs S1 => forL g b xs δ S1
def whileL (c : RB) (b : RS) : Nat → RS
  | 0, _, _ => .stuck
  | n + 1, δ, S => (c δ S).out δ fun k S1 => if k then (match b δ S1 with
    | .nx δ2 S2 => whileL c b n δ2 S2
    | .ct δ2 S2 => whileL c b n δ2 S2
    | .bk δ2 S2 => .nx δ2 S2
    | o => o) else .nx δ S1
def sWhile (fuel : Sl → Sto → Nat) (c : RB) (b : RS) : RS := fun δ S => whileL c b (fuel δ S) δ S
/-- the turns of a list comprehension; δ: the slots without its own names -/
def lcL (g : RG) (t : RB) (e : RE) : List D → Sl → Sto → Res (List D)
  | [], _, S => .ok [] S
  | x :: xs, δ, S => (g x δ S).bind fun δ1 S1 => (t δ1 S1).bind fun k S2 =>
    if k then (e δ1 S2).bind fun y S3 => (lcL g t e xs δ S3).bind fun ys S4 => .ok (y :: ys) S4 else lcL g t e xs δ S2
def wipeD (δ : Sl) : List Nat → Sl
  | [] => δ
  | v :: vs => (wipeD δ vs).set v none
def noErr {A : Type} (r : Res A) : Res A := match r with
  | .err _ _ _ => .stuck
  | r => r
def bYes : RB := fun _ S => .ok true S
def rLc (it : RA) (g : RG) (vs : List Nat) (t : RB) (e : RE) : RE := fun δ S => (it δ S).bind fun xs S1 =>
  (noErr (lcL g t e xs (wipeD δ vs) S1)).bind fun ys S2 => if ys.length ≤ sizeLine then .ok (.lst ys) S2 else .stuck
/-! keys of any depth -/
mutual
def keyN : D → Option NestedKey
  | .non => some .none
  | .bl b => some (.num (if b = true then 1 else 0))
  | .int i => some (.num i)
  | .str x => some (.text x)
  | .tup xs => (keyNs xs).map .tup
  | _ => none
def keyNs : List D → Option (List NestedKey)
  | [] => some []
  | d :: r => match keyN d, keyNs r with
    | some k, some ks => some (k :: ks)
    | _, _ => none
end
/-- a tuple that may be a key -/
def isKeyN (d : D) : Bool := match d with
  | .tup _ => (match keyN d with
    | some k => decide (k.depth ≤ 8)
    | none => false)
  | _ => false
def eqN (a b : D) : Bool := match keyN a, keyN b with
  | some x, some y => NestedKey.beq x y
  | _, _ => false
def lookN : List (D × D) → D → Option D
  | [], _ => none
  | (k, v) :: r, q => if eqN k q then some v else lookN r q
def replN : List (D × D) → D → D → List (D × D)
  | [], _, _ => []
  | (k, v) :: r, q, y => if eqN k q then (k, y) :: replN r q y else (k, v) :: replN r q y
def putN (kvs : List (D × D)) (q y : D) : List (D × D) := if (lookN kvs q).isSome then replN kvs q y else kvs ++ [(q, y)]
def mergeN (kvs more : List (D × D)) : List (D × D) := more.foldl (fun acc kv => putN acc kv.1 kv.2) kvs
/-! ghost steps -/
/-- the object of slot i is changed no more -/
def sFreeze (i : Nat) : RS := fun δ S => match δ[i]? with
  | some (some (.ptr k)) => (match S[k]? with
    | some (.lst ds) => .nx (δ.set i (some (.lst ds))) (S.set k .non)
    | _ => .stuck)
  | _ => .stuck
mutual
/-- nothing in it stands in the store from n on -/
def D.closed (n : Nat) : D → Bool
  | .ptr k => decide (k < n)
  | .tup xs => closedL n xs
  | .lst xs => closedL n xs
  | .dct kvs => closedK n kvs
  | .dcn kvs => closedK n kvs
  | .lck d => D.closed n d
  | .tux xs => closedL n xs
  | .exc _ fs => closedK n fs
  | .dc0 d => D.closed n d
  | .lam _ _ _ _ ds => closedL n ds
  | _ => true
def closedL (n : Nat) : List D → Bool
  | [] => true
  | d :: r => D.closed n d && closedL n r
def closedK (n : Nat) : List (D × D) → Bool
  | [] => true
  | (k, v) :: r => D.closed n k && D.closed n v && closedK n r
end
/-- a thing of the store that is neither gone nor locked -/
def D.open : D → Bool
  | .non => false
  | .lck _ => false
  | _ => true
def D.owned : D → Bool
  | .lst _ => true
  | .dct _ => true
  | .dcn _ => true
  | _ => false
/-- a thing that a def made and gives away, to be changed further -/
def giveD (n : Nat) (d : D) (S1 : Sto) : Res D := match d with
  | .ptr k => (match S1[k]? with
    | some u => if u.owned && D.closed n u && decide (n ≤ k) && closedL n (S1.take n) then .ok (.ptr n) (S1.take n ++ [u]) else .stuck
    | none => .stuck)
  | _ => .stuck
/-- a def: n slots, its body; what it made itself in the store goes -/
def mDef (n : Nat) (b : RS) : Mir := fun ds S => match b (ds.map some ++ List.replicate (n - ds.length) none) S with
  | .rt d S1 => if D.closed S.length d && closedL S.length (S1.take S.length) then .ok d (S1.take S.length) else giveD S.length d S1
  | .nx _ S1 => if closedL S.length (S1.take S.length) then .ok .non (S1.take S.length) else .stuck
  | .err c fs _ S1 => if closedL S.length (fs.map (·.2)) && closedL S.length (S1.take S.length) then .err c fs (S1.take S.length) else .stuck
  | _ => .stuck
end DL
set_option Elab.async false
set_option linter.all false
set_option maxRecDepth 100000
set_option maxHeartbeats 4000000
set_option autoImplicit false
/-! Data layer: tuples that are made, known to the object. -/
namespace DL
open PySem PySem.Spec PyProof.Rows L2
abbrev Fg := PySem.W.Frag
/-- a tuple without a dict of its own -/
def PlT (K : Fg) (F : Hp) (a : Addr) (xs : List V) : Prop := SqT K F a xs ∧ ((∃ o, F a = some (.frz o (.tup xs)) ∧ o.dict = none) ∨ ∃ o, K.lookup a = some o ∧ o.dict = none)
/-- a tuple that is made at a new place -/
def TLays (H : Hp) (xs : List V) (Q : VK) : Prop := ∀ p, H p = none → ∀ o : Obj, o.dict = none → Q (.ref p) (upd H p (.frz o (.tup xs)))
def tupObj (us : Array Value) : Obj := { cls := .type "tuple", data := .seq us }
theorem tup_frz {P : Program} {w : World} {H : Hp} {h : Heap} {us : List Value} {xs : List V} (z : xs.length ≤ sizeLine) (r : Vals xs us) : ObjOk P w H (h.push (tupObj us.toArray)) h.objs.size (.frz (tupObj us.toArray) (.tup xs)) :=
  ⟨Heap.get?_push_size _ rfl, z, us, r, ⟨_, Heap.get?_push_size _ rfl, rfl, _, rfl⟩⟩
section
variable {X : Cx} {es : List Expr} {pos : Pos} {t : TA}
def tTupP (t : TA) : TE := fun σ H Q => t σ H fun xs H1 => xs.length ≤ sizeLine ∧ TLays H1 xs Q
theorem pe_tupP {x1} (h : PA X es t) : PE X (.Tuple es x1 pos) (tTupP t) := by
  refine ⟨fun pins s σ H Q I hq => ?_⟩
  refine wpAny_Tuple_spliced (thn (h.run pos pins s σ H _ I hq) fun us s1 ⟨xs, H1, I1, r, z, q⟩ => ⟨by rw [← r.length]; exact z, ?_⟩)
  have hf : H1 s1.heap.objs.size = none := I1.hok.fresh (Nat.le_refl _)
  exact ⟨.ref s1.heap.objs.size, upd H1 s1.heap.objs.size (.frz (tupObj us.toArray) (.tup xs)), I1.laid (t' := s1.toks) (fun b u e => Heap.get?_push_of_some _ e) (Nat.le_refl _) (tup_frz z r), rfl, q _ hf _ rfl⟩
theorem call_tuple_ofP : CallR X (.type "tuple") (fun xs H Q => ∃ p ys, xs = [.ref p] ∧ ((SqL X.K H p ys ∧ TLays H ys Q) ∨ (SqT X.K H p ys ∧ Q (.ref p) H))) := by
  intro pins s σ H xs us Q I r h
  obtain ⟨p, ys, rfl, h⟩ := h
  obtain ⟨u, rfl, rx⟩ := vals1 r
  cases rx
  rcases h with ⟨hq, q⟩ | ⟨hq, q⟩
  · obtain ⟨its, r', pl, hz⟩ := I.list hq
    have hlen := r'.length
    refine call_tuple_list pl.isList (fun h' kp => ?_) (by simp only [List.size_toArray] <;> omega)
    have I1 : Inv X pins σ H { s with heap := h' } := I.kept (t' := s.toks) kp
    have I2 : Inv X pins σ (upd H h'.objs.size (.frz (tupObj its.toArray) (.tup ys))) { s with heap := h'.push { cls := .type "tuple", data := .seq its.toArray } } :=
      I1.laid (t' := s.toks) (fun b o e => Heap.get?_push_of_some _ e) (Nat.le_refl _) (tup_frz hz r')
    exact ⟨.ref h'.objs.size, _, I2, rfl, q _ (I1.hok.fresh (Nat.le_refl _)) _ rfl⟩
  · obtain ⟨its, r', pl, hz⟩ := I.tuple hq
    exact call_tuple_same pl ⟨.ref p, H, I, rfl, q⟩
/-- t + u -/
def rCatP (K : Fg) : R2 := fun x y H Q => ∃ a b xs ys, x = .ref a ∧ y = .ref b ∧ SqT K H a xs ∧ SqT K H b ys ∧ xs.length + ys.length ≤ sizeLine ∧
  (xs = [] → Q (.ref b) H) ∧ (xs ≠ [] → ys = [] → Q (.ref a) H) ∧ (xs ≠ [] → ys ≠ [] → TLays H (xs ++ ys) Q)
theorem op_catP : OpR X (binaryOp .Add) (rCatP X.K) := by
  intro pins s σ H x y v u Q I rx ry h
  obtain ⟨a, b, xs, ys, rfl, rfl, ha, hb, hz, q0, q1, q2⟩ := h
  cases rx
  cases ry
  obtain ⟨its, r1, p1, _⟩ := I.tuple ha
  obtain ⟨its2, r2, p2, _⟩ := I.tuple hb
  by_cases hx : xs = []
  · subst hx
    cases r1
    exact cat_tup0 p1 p2 ⟨.ref b, H, I, rfl, q0 rfl⟩
  · refine HT.cat_tup p1 p2 (fun z => hx (r1.nil_iff.mp z)) (fun z => ⟨.ref a, H, I, rfl, q1 hx (r2.nil_iff.mp z)⟩) (fun z => ?_) (by rw [← r1.length, ← r2.length]; exact hz)
    exact ⟨.ref s.heap.objs.size, _, I.laid (t' := s.toks) (o := .frz (tupObj (its ++ its2).toArray) (.tup (xs ++ ys))) (fun b ob q => Heap.get?_push_of_some _ q) (Nat.le_refl _) (tup_frz (by rw [List.length_append]; exact hz) (r1.append r2)), rfl, q2 hx (fun w => z (r2.nil_iff.mpr w)) _ (I.hok.fresh (Nat.le_refl _)) _ rfl⟩
/-- t[lo:hi]: the whole of it is t itself -/
def rSlP (K : Fg) : V → Option Int → Option Int → Hp → VK → Prop := fun x lo hi H Q => ∃ a xs, x = .ref a ∧ SqT K H a xs ∧
  (HT.sIx xs.length 0 lo = 0 ∧ HT.sIx xs.length xs.length hi = xs.length → Q (.ref a) H) ∧ (¬ (HT.sIx xs.length 0 lo = 0 ∧ HT.sIx xs.length xs.length hi = xs.length) → TLays H (cutV xs lo hi) Q)
theorem sl_tupP : SlR X (rSlP X.K) := by
  intro pins s σ H x v vl vu lo hi sl Q I rx hs pl pu h
  obtain ⟨a, xs, rfl, hx, q1, q2⟩ := h
  cases rx
  obtain ⟨its, r, ht, hz⟩ := I.tuple hx
  have hlen : its.toArray.size = xs.length := by rw [List.size_toArray]; exact r.length.symm
  refine ⟨"tuple", _, PyProof.Rows.slot_tuple_getitem.lookup, ht.typeIs, ?_⟩
  by_cases hw : HT.sIx xs.length 0 lo = 0 ∧ HT.sIx xs.length xs.length hi = xs.length
  · exact getItem_tuple_whole ht hs pl pu (by rw [hlen]; exact hw) ⟨.ref a, H, I, rfl, q1 hw⟩
  · refine HT.getItem_tuple_cut ht hs pl pu (by rw [hlen]; exact hw) ?_ (by rw [hlen]; exact hz)
    rw [hlen]
    exact ⟨.ref s.heap.objs.size, _, I.laid (t' := s.toks) (o := .frz (tupObj _) (.tup (cutV xs lo hi))) (fun b ob q => Heap.get?_push_of_some _ q) (Nat.le_refl _) (tup_frz (Nat.le_trans (cutV_length xs lo hi) hz) ((r.drop (HT.sIx xs.length 0 lo)).take (HT.sIx xs.length xs.length hi - HT.sIx xs.length 0 lo))), rfl, q2 hw _ (I.hok.fresh (Nat.le_refl _)) _ rfl⟩
end
end DL
set_option Elab.async false
set_option linter.all false
set_option maxRecDepth 100000
set_option maxHeartbeats 4000000
set_option autoImplicit false
/-! Data layer, second part: what data are in the heap; the judgements. -/
namespace DL
open PySem PySem.Spec PyProof.Rows L2
/-- a dict of one pair, its key None -/
def dz (a : Addr) (o : Obj) (v : V) : HO := .ext fun h => (a == sysModules) = false ∧ h.get? a = some o ∧ o.ExactDict ∧ ∃ (ep : Nat) (e : DictEntry), e.key = .none ∧ RelV v e.val ∧ o.data = .dict #[e] ep
/-- an exception that was caught, at a: of the class cls, its dict -/
def exh (a : Addr) (cls : Value) (d : Option Addr) : HO := .ext fun h => ∃ (oe : Obj) (vs : Array Value), h.get? a = some oe ∧ Zc cls d oe ∧ oe.data = .fields vs
theorem exh_ok {P : Program} {w : World} {H : Hp} {h : Heap} {a : Addr} {cls : Value} {d : Option Addr} {oe : Obj} {vs : Array Value} (e : h.get? a = some oe) (z : Zc cls d oe) (q : oe.data = .fields vs) : ObjOk P w H h a (exh a cls d) :=
  ⟨⟨oe, vs, e, z, q⟩, ⟨oe, e⟩, fun _ _ ⟨o, v, q, r⟩ k => ⟨o, v, k o q, r⟩⟩
def ExFs (F : Hp) (d : Option Addr) (ws : List (Str × V)) : Prop := (d = none ∧ ws = []) ∨ ∃ dd, d = some dd ∧ F dd = some (.xd ws)
inductive DKs : List Key → List D → Prop
  | nil : DKs [] []
  | int {i : Int} {ks : List Key} {ds : List D} : DKs ks ds → DKs (.inl i :: ks) (.int i :: ds)
  | str {x : Str} {ks : List Key} {ds : List D} : DKs ks ds → DKs (.inr x :: ks) (.str x :: ds)
theorem DKs.length : ∀ {ks : List Key} {ds : List D}, DKs ks ds → ks.length = ds.length
  | _, _, .nil => rfl
  | _, _, .int t => by rw [List.length_cons, List.length_cons, DKs.length t]
  | _, _, .str t => by rw [List.length_cons, List.length_cons, DKs.length t]
mutual
inductive DV (wd : World) (K : Fg) (mg : Str → Option Value) (F : Hp) (α : List Addr) : V → D → Prop
  | non : DV wd K mg F α .non .non
  | bl (b : Bool) : DV wd K mg F α (.bl b) (.bl b)
  | int (i : Int) : DV wd K mg F α (.int i) (.int i)
  | str (x : Str) : DV wd K mg F α (.str x) (.str x)
  | tux {a : Addr} {xs : List V} {ds : List D} : SqT K F a xs → DVs wd K mg F α xs ds → DV wd K mg F α (.ref a) (.tux ds)
  | tup {a : Addr} {xs : List V} {ds : List D} : PlT K F a xs → DVs wd K mg F α xs ds → DV wd K mg F α (.ref a) (.tup ds)
  | lst {a : Addr} {xs : List V} {ds : List D} : SqL K F a xs → DVs wd K mg F α xs ds → DV wd K mg F α (.ref a) (.lst ds)
  | ptr {k : Nat} {a : Addr} : α[k]? = some a → DV wd K mg F α (.ref a) (.ptr k)
  | fn {x : Str} {a : Addr} : mg x = some (.ref a) → DV wd K mg F α (.ref a) (.fn x)
  | ty (n : String) : DV wd K mg F α (.ty n) (.ty n)
  | exc {c : Str} {C a : Addr} {d : Option Addr} {ws : List (Str × V)} {fs : List (D × D)} : mg c = some (.ref C) → F a = some (exh a (.ref C) d) → ExFs F d ws → fs.map (·.1) = ws.map (fun p => .str p.1) → DVs wd K mg F α (ws.map (·.2)) (fs.map (·.2)) → DV wd K mg F α (.ref a) (.exc c fs)
  | dc0 {a : Addr} {o : Obj} {v : V} {d : D} : F a = some (dz a o v) → DV wd K mg F α v d → DV wd K mg F α (.ref a) (.dc0 d)
  | lam {f c : Addr} {q : Str} {vs : List V} {ds : List D} : F c = some (LamX.CodeO c q) → DVs wd K mg F α vs ds → DV wd K mg F α (.ref f) (.lam f c q vs ds)
inductive DVs (wd : World) (K : Fg) (mg : Str → Option Value) (F : Hp) (α : List Addr) : List V → List D → Prop
  | nil : DVs wd K mg F α [] []
  | cons {v : V} {d : D} {vs : List V} {ds : List D} : DV wd K mg F α v d → DVs wd K mg F α vs ds → DVs wd K mg F α (v :: vs) (d :: ds)
end
/-- more stands for good -/
def Sub (F F' : Hp) : Prop := ∀ a o, F a = some o → F' a = some o
theorem Sub.refl (F : Hp) : Sub F F := fun _ _ h => h
theorem Sub.trans {F F1 F2 : Hp} (a : Sub F F1) (b : Sub F1 F2) : Sub F F2 := fun x o h => b x o (a x o h)
theorem Sub.sqL {K : Fg} {F F' : Hp} {a : Addr} {xs : List V} (s : Sub F F') (h : SqL K F a xs) : SqL K F' a xs := by
  rcases h with (h | ⟨o, h⟩) | h
  · exact .inl (.inl (s _ _ h))
  · exact .inl (.inr ⟨o, s _ _ h⟩)
  · exact .inr h
theorem Sub.sqT {K : Fg} {F F' : Hp} {a : Addr} {xs : List V} (s : Sub F F') (h : SqT K F a xs) : SqT K F' a xs := by
  rcases h with (h | ⟨o, h⟩) | h
  · exact .inl (.inl (s _ _ h))
  · exact .inl (.inr ⟨o, s _ _ h⟩)
  · exact .inr h
theorem Sub.plT {K : Fg} {F F' : Hp} {a : Addr} {xs : List V} (s : Sub F F') (h : PlT K F a xs) : PlT K F' a xs := ⟨s.sqT h.1, h.2.imp (fun ⟨o, e, q⟩ => ⟨o, s _ _ e, q⟩) id⟩
theorem Sub.new {F : Hp} {a : Addr} {o : HO} (h : F a = none) : Sub F (upd F a o) := fun b u e => by
  have : b ≠ a := fun z => by subst z; rw [h] at e; cases e
  rw [upd_ne this]; exact e
section
variable {wd : World} {K : Fg} {mg : Str → Option Value} {F F' : Hp} {α β : List Addr}
theorem at_app {A : Type} {l m : List A} {k : Nat} {a : A} (h : l[k]? = some a) : (l ++ m)[k]? = some a := by
  obtain ⟨hk, e⟩ := List.getElem?_eq_some_iff.mp h
  rw [List.getElem?_append_left hk]; exact h
mutual
theorem DV.mono {v : V} {d : D} (s : Sub F F') : DV wd K mg F α v d → DV wd K mg F' (α ++ β) v d
  | .non => .non
  | .bl b => .bl b
  | .int i => .int i
  | .str x => .str x
  | .tup h t => .tup (s.plT h) (DVs.mono s t)
  | .tux h t => .tux (s.sqT h) (DVs.mono s t)
  | .lst h t => .lst (s.sqL h) (DVs.mono s t)
  | .ptr h => .ptr (at_app h)
  | .fn h => .fn h
  | .ty n => .ty n
  | .exc h1 h2 h3 h4 h5 => .exc h1 (s _ _ h2) (h3.imp id fun ⟨dd, e, q⟩ => ⟨dd, e, s _ _ q⟩) h4 (DVs.mono s h5)
  | .dc0 h t => .dc0 (s _ _ h) (DV.mono s t)
  | .lam h t => .lam (s _ _ h) (DVs.mono s t)
theorem DVs.mono {vs : List V} {ds : List D} (s : Sub F F') : DVs wd K mg F α vs ds → DVs wd K mg F' (α ++ β) vs ds
  | .nil => .nil
  | .cons h t => .cons (DV.mono s h) (DVs.mono s t)
end
theorem DVs.length : ∀ {vs : List V} {ds : List D}, DVs wd K mg F α vs ds → vs.length = ds.length
  | _, _, .nil => rfl
  | _, _, .cons _ t => by rw [List.length_cons, List.length_cons, DVs.length t]
theorem DVs.get : ∀ {vs : List V} {ds : List D} {i : Nat} {d : D}, DVs wd K mg F α vs ds → ds[i]? = some d → ∃ v, vs[i]? = some v ∧ DV wd K mg F α v d
  | _, _, _, _, .nil, e => by simp at e
  | _, _, 0, _, .cons h _, e => by simp at e; subst e; exact ⟨_, rfl, h⟩
  | _, _, i + 1, d, .cons _ t, e => by
    obtain ⟨v, h1, h2⟩ := DVs.get (i := i) (d := d) t (by simpa using e)
    exact ⟨v, by simpa using h1, h2⟩
theorem DVs.append : ∀ {vs ws : List V} {ds es : List D}, DVs wd K mg F α vs ds → DVs wd K mg F α ws es → DVs wd K mg F α (vs ++ ws) (ds ++ es)
  | _, _, _, _, .nil, s => s
  | _, _, _, _, .cons h t, s => .cons h (DVs.append t s)
theorem DVs.take : ∀ {vs : List V} {ds : List D} (n : Nat), DVs wd K mg F α vs ds → DVs wd K mg F α (vs.take n) (ds.take n)
  | _, _, 0, _ => .nil
  | _, _, _ + 1, .nil => .nil
  | _, _, n + 1, .cons h t => .cons h (DVs.take n t)
theorem DVs.drop : ∀ {vs : List V} {ds : List D} (n : Nat), DVs wd K mg F α vs ds → DVs wd K mg F α (vs.drop n) (ds.drop n)
  | _, _, 0, h => h
  | _, _, _ + 1, .nil => .nil
  | _, _, n + 1, .cons _ t => DVs.drop n t
theorem DVs.set {v : V} {d : D} (h : DV wd K mg F α v d) : ∀ {vs : List V} {ds : List D} (i : Nat), DVs wd K mg F α vs ds → DVs wd K mg F α (vs.set i v) (ds.set i d)
  | _, _, _, .nil => .nil
  | _, _, 0, .cons _ t => .cons h t
  | _, _, i + 1, .cons q t => .cons q (DVs.set h i t)
theorem DVs.ints : ∀ {vs : List V} {ns : List Int}, DVs wd K mg F α vs (ns.map .int) → vs = ns.map .int
  | _, [], h => by cases h; rfl
  | _, n :: r, h => by
    cases h with
    | cons h t => cases h; rw [DVs.ints t]; rfl
theorem DVs.bls : ∀ {vs : List V} {ns : List Bool}, DVs wd K mg F α vs (ns.map .bl) → vs = ns.map .bl
  | _, [], h => by cases h; rfl
  | _, n :: r, h => by
    cases h with
    | cons h t => cases h; rw [DVs.bls t]; rfl
theorem DVs.of_ints : ∀ ns : List Int, DVs wd K mg F α (ns.map .int) (ns.map .int)
  | [] => .nil
  | n :: r => .cons (.int n) (DVs.of_ints r)
theorem DVs.of_strs : ∀ ns : List Str, DVs wd K mg F α (ns.map .str) (ns.map .str)
  | [] => .nil
  | n :: r => .cons (.str n) (DVs.of_strs r)
end
/-- values beside values -/
def NV : List (NestedKey × Addr × V) → List (NestedKey × Addr × Value) → Prop := Paired fun p q => p.1 = q.1 ∧ p.2.1 = q.2.1 ∧ RelV p.2.2 q.2.2
/-- a dict whose keys are tuples -/
def dN (w : World) (a : Addr) (xs : List (NestedKey × Addr × V)) : HO := .ext fun h => (a == sysModules) = false ∧ xs.length ≤ sizeLine ∧ (xs.map (·.1)).Nodup ∧ ∃ vs, NV xs vs ∧ ∃ o es ep, h.get? a = some o ∧ o.ExactDict ∧ o.data = .dict es ep ∧ es.toList = vs.map (fun x => (⟨x.1.hash w, .ref x.2.1, x.2.2⟩ : DictEntry))
/-- its pairs -/
inductive NVs (wd : World) (K : Fg) (mg : Str → Option Value) (F : Hp) (α : List Addr) : List (NestedKey × Addr × V) → List (D × D) → Prop
  | nil : NVs wd K mg F α [] []
  | cons {nk : NestedKey} {b : Addr} {v : V} {q d : D} {xs : List (NestedKey × Addr × V)} {kvs : List (D × D)} : keyN q = some nk → nk.depth ≤ 8 → DV wd K mg F α (.ref b) q → (∃ ds, q = .tup ds) → DV wd K mg F α v d → NVs wd K mg F α xs kvs → NVs wd K mg F α ((nk, b, v) :: xs) ((q, d) :: kvs)
theorem NVs.mono {wd : World} {K : Fg} {mg : Str → Option Value} {F F' : Hp} {α β : List Addr} {xs : List (NestedKey × Addr × V)} {kvs : List (D × D)} (s : Sub F F') (h : NVs wd K mg F α xs kvs) : NVs wd K mg F' (α ++ β) xs kvs := by
  induction h with
  | nil => exact .nil
  | cons h1 h2 h3 h4 h6 _ ih => exact .cons h1 h2 (h3.mono s) h4 (h6.mono s) ih
/-- the store's object at a is d -/
def Own (wd : World) (K : Fg) (mg : Str → Option Value) (F : Hp) (α : List Addr) (H : Hp) (a : Addr) : D → Prop
  | .lst ds => ∃ xs, H a = some (.lst xs) ∧ DVs wd K mg F α xs ds
  | .dct kvs => ∃ ws : List (Key × V), H a = some (.dK ws) ∧ DKs (ws.map (·.1)) (kvs.map (·.1)) ∧ DVs wd K mg F α (ws.map (·.2)) (kvs.map (·.2))
  | .dcn kvs => ∃ xs, H a = some (dN wd a xs) ∧ NVs wd K mg F α xs kvs
  | .lck (.dct kvs) => ∃ o, ∃ ws : List (Key × V), F a = some (.frz o (.dK ws)) ∧ H a = some (.frz o (.dK ws)) ∧ DKs (ws.map (·.1)) (kvs.map (·.1)) ∧ DVs wd K mg F α (ws.map (·.2)) (kvs.map (·.2))
  | .lck (.dcn kvs) => ∃ o xs, F a = some (.frz o (dN wd a xs)) ∧ H a = some (.frz o (dN wd a xs)) ∧ NVs wd K mg F α xs kvs
  | .non => True
  | .lam P _ q _ _ => a = P ∧ ∃ ps : Array Value, H a = some (.tbl ps) ∧ TriplesOk ps.toList ∧ ∀ (pos : Pos) (cv : Value), codeAmong pos ps.toList = some cv → ∃ c, cv = .ref c ∧ F c = some (LamX.CodeO c q)
  | .exc c fs => ∃ (dx : Addr) (vs : List (Str × V)), H a = some (.ins (He.ga K c) dx vs) ∧ fs.map (·.1) = (vs.map (·.1)).map D.str ∧ DVs wd K mg F α (vs.map (·.2)) (fs.map (·.2))
  | _ => False
structure Rel (wd : World) (K : Fg) (mg : Str → Option Value) (α : List Addr) (F H : Hp) (S : Sto) : Prop where
  sub : Sub F H
  len : α.length = S.length
  nd : α.Nodup
  here : ∀ a ∈ α, ∃ o, H a = some o
  own : ∀ (k : Nat) (a : Addr) (d : D), α[k]? = some a → S[k]? = some d → Own wd K mg F α H a d ∧ (d.open = true → F a = none)
/-- what stood and isn't the store's stands -/
structure Stp (α : List Addr) (F H : Hp) (β : List Addr) (F' H' : Hp) : Prop where
  new : ∀ b ∈ β, H b = none
  sub : Sub F F'
  frame : ∀ a o, a ∉ α → H a = some o → H' a = some o
  live : ∀ a, H' a = none → H a = none
  fnew : ∀ a, a ∉ α → F a = none → H a ≠ none → F' a = none
theorem Stp.refl {α : List Addr} {F H : Hp} : Stp α F H [] F H := ⟨(fun _ h => nomatch h), Sub.refl F, fun _ _ _ h => h, fun _ h => h, fun _ _ h _ => h⟩
theorem Stp.trans {α β γ : List Addr} {F H F1 H1 F2 H2 : Hp} (a : Stp α F H β F1 H1) (b : Stp (α ++ β) F1 H1 γ F2 H2) : Stp α F H (β ++ γ) F2 H2 := by
  have fr : ∀ x o, x ∉ α → H x = some o → H2 x = some o := fun x o n e => b.frame x o (fun z => by
    rcases List.mem_append.mp z with z | z
    · exact n z
    · rw [a.new x z] at e; cases e) (a.frame x o n e)
  refine ⟨fun x hx => ?_, a.sub.trans b.sub, fr, fun x h => a.live x (b.live x h), fun x h1 h2 h3 => b.fnew x (fun z => ?_) (a.fnew x h1 h2 h3) fun z => h3 (a.live x z)⟩
  rotate_left
  · rcases List.mem_append.mp z with z | z
    · exact h1 z
    · exact h3 (a.new x z)
  rcases List.mem_append.mp hx with z | z
  · exact a.new x z
  · exact a.live x (b.new x z)
section
variable {wd : World} {K : Fg} {mg : Str → Option Value} {α β : List Addr} {F F' H H' : Hp} {S S' : Sto}
theorem Own.mono {a : Addr} {d : D} (s : Sub F F') (e : H' a = H a) (h : Own wd K mg F α H a d) : Own wd K mg F' (α ++ β) H' a d := by
  cases d with
  | lst ds => obtain ⟨xs, h1, h2⟩ := h; exact ⟨xs, e.trans h1, h2.mono s⟩
  | dct kvs => obtain ⟨ws, h1, h2, h3⟩ := h; exact ⟨ws, e.trans h1, h2, h3.mono s⟩
  | dcn kvs => obtain ⟨ws, h1, h2⟩ := h; exact ⟨ws, e.trans h1, h2.mono s⟩
  | lck u =>
    cases u with
    | dct kvs => obtain ⟨o, ws, h0, h1, h2, h3⟩ := h; exact ⟨o, ws, s _ _ h0, e.trans h1, h2, h3.mono s⟩
    | dcn kvs => obtain ⟨o, ws, h0, h1, h2⟩ := h; exact ⟨o, ws, s _ _ h0, e.trans h1, h2.mono s⟩
    | _ => exact h.elim
  | non => trivial
  | lam P _ q _ _ => obtain ⟨h0, ps, h1, h2, h3⟩ := h; exact ⟨h0, ps, e.trans h1, h2, fun pos cv hc => (h3 pos cv hc).imp fun c hc => ⟨hc.1, s _ _ hc.2⟩⟩
  | exc c fs => obtain ⟨dx, vs, h1, h2, h3⟩ := h; exact ⟨dx, vs, e.trans h1, h2, h3.mono s⟩
  | _ => exact h.elim
theorem Rel.notF (r : Rel wd K mg α F H S) {p : Addr} (hp : H p = none) : F p = none := by
  cases e : F p with
  | none => rfl
  | some u => rw [r.sub _ _ e] at hp; cases hp
theorem Rel.notin (r : Rel wd K mg α F H S) {p : Addr} (hp : H p = none) : p ∉ α := fun h => by
  obtain ⟨o, e⟩ := r.here p h
  rw [hp] at e; cases e
theorem upd_some {H : Hp} {p a : Addr} {o u : HO} (hp : H p = none) (e : H a = some u) : upd H p o a = some u := by
  have z : a ≠ p := fun z => by subst z; rw [hp] at e; cases e
  rw [upd_ne z]; exact e
theorem upd_none {H : Hp} {p a : Addr} {o : HO} (h : upd H p o a = none) : H a = none := by
  by_cases z : a = p
  · subst z; rw [upd_same] at h; cases h
  · rw [upd_ne z] at h; exact h
theorem Sub.upd {F H : Hp} {p : Addr} {o : HO} (s : Sub F H) : Sub (upd F p o) (L2.upd H p o) := fun a u e => by
  by_cases z : a = p
  · subst z; rw [upd_same] at e ⊢; exact e
  · rw [upd_ne z] at e ⊢; exact s _ _ e
theorem Stp.ofNew {p : Addr} {o : HO} (hp : H p = none) (sb : Sub F F') (h : ∀ b ∈ β, b = p) (hf : ∀ a, a ≠ p → F a = none → F' a = none) : Stp α F H β F' (upd H p o) :=
  ⟨fun b hb => by rw [h b hb]; exact hp, sb, fun a u _ e => upd_some hp e, fun a e => upd_none e, fun a _ h2 h3 => hf a (fun z => h3 (z ▸ hp)) h2⟩
theorem Rel.other (r : Rel wd K mg α F H S) {p : Addr} {o : HO} (hp : p ∉ α) (hf : F p = none) : Rel wd K mg α F (upd H p o) S := by
  refine ⟨fun a u e => ?_, r.len, r.nd, fun a h => ?_, fun k a d h1 h2 => ?_⟩
  · have z : a ≠ p := fun z => by subst z; rw [hf] at e; cases e
    rw [upd_ne z]; exact r.sub _ _ e
  · have z : a ≠ p := fun z => hp (z ▸ h)
    obtain ⟨u, e⟩ := r.here a h
    exact ⟨u, by rw [upd_ne z]; exact e⟩
  · obtain ⟨h3, h4⟩ := r.own k a d h1 h2
    have z : a ≠ p := fun z => hp (z ▸ List.mem_of_getElem? h1)
    have h5 : Own wd K mg F (α ++ []) (upd H p o) a d := h3.mono (Sub.refl F) (upd_ne z)
    rw [List.append_nil] at h5
    exact ⟨h5, h4⟩
theorem Stp.other (s : Stp α F H β F' H') {p : Addr} {o : HO} (hp : H p = none) : Stp α F H β F' (upd H' p o) := by
  refine ⟨s.new, s.sub, fun a u h e => ?_, fun a e => s.live a (upd_none e), s.fnew⟩
  have z : a ≠ p := fun z => by subst z; rw [hp] at e; cases e
  rw [upd_ne z]; exact s.frame a u h e
/-- a new thing that stands for good -/
theorem Rel.newF (r : Rel wd K mg α F H S) {p : Addr} {o : HO} (hp : H p = none) : Rel wd K mg (α ++ []) (upd F p o) (upd H p o) S ∧ Stp α F H [] (upd F p o) (upd H p o) := by
  have hF := r.notF hp
  have sb : Sub F (upd F p o) := Sub.new hF
  refine ⟨⟨r.sub.upd, by rw [List.append_nil]; exact r.len, by rw [List.append_nil]; exact r.nd, fun a h => ?_, fun k a d h1 h2 => ?_⟩, Stp.ofNew hp sb (fun _ h => nomatch h) fun a z e => by rw [upd_ne z]; exact e⟩
  · rw [List.append_nil] at h
    obtain ⟨u, e⟩ := r.here a h
    exact ⟨u, upd_some hp e⟩
  · rw [List.append_nil] at h1
    obtain ⟨h3, h4⟩ := r.own k a d h1 h2
    have z : a ≠ p := fun z => r.notin hp (z ▸ List.mem_of_getElem? h1)
    exact ⟨h3.mono sb (upd_ne z), fun hd => by rw [upd_ne z]; exact h4 hd⟩
/-- the store's object k is changed -/
theorem Rel.setO (r : Rel wd K mg α F H S) {k : Nat} {a : Addr} {o : HO} {d e : D} (h1 : α[k]? = some a) (h2 : S[k]? = some e) (he : e.open = true) (hd : Own wd K mg F α (upd H a o) a d) :
    Rel wd K mg (α ++ []) F (upd H a o) (S.set k d) ∧ Stp α F H [] F (upd H a o) := by
  obtain ⟨_, q⟩ := r.own k a e h1 h2
  have hF := q he
  have hn := r.nd
  have ha : a ∈ α := List.mem_of_getElem? h1
  refine ⟨⟨fun b u e => ?_, by rw [List.append_nil, List.length_set]; exact r.len, by rw [List.append_nil]; exact r.nd, fun b h => ?_, fun j b u g1 g2 => ?_⟩, ⟨(fun _ h => nomatch h), Sub.refl F, fun b u hb e => ?_, fun b e => upd_none e, fun _ _ h _ => h⟩⟩
  · have z : b ≠ a := fun z => by subst z; rw [hF] at e; cases e
    rw [upd_ne z]; exact r.sub _ _ e
  · rw [List.append_nil] at h
    by_cases z : b = a
    · subst z; exact ⟨_, upd_same⟩
    · obtain ⟨u, e⟩ := r.here b h
      exact ⟨u, by rw [upd_ne z]; exact e⟩
  · rw [List.append_nil] at g1
    by_cases z : j = k
    · subst z
      rw [h1] at g1; cases g1
      rw [List.getElem?_set_self (List.getElem?_eq_some_iff.mp h2).1] at g2
      cases g2
      rw [List.append_nil]
      exact ⟨hd, fun _ => hF⟩
    · rw [List.getElem?_set_ne (Ne.symm z)] at g2
      obtain ⟨h3, h4⟩ := r.own j b u g1 g2
      have y : b ≠ a := fun y => by
        subst y
        exact z ((List.getElem_inj hn).mp ((List.getElem?_eq_some_iff.mp g1).2.trans (List.getElem?_eq_some_iff.mp h1).2.symm))
      exact ⟨h3.mono (Sub.refl F) (upd_ne y), h4⟩
  · have z : b ≠ a := fun z => hb (z ▸ ha)
    rw [upd_ne z]; exact e
end
section
variable {wd : World} {K : Fg} {mg : Str → Option Value} {α β : List Addr} {F F' H H' : Hp} {S S' : Sto}
/-- a thing that stands by itself becomes the store's -/
theorem Rel.adopt (r : Rel wd K mg α F H S) {p : Addr} {d : D} (hp : p ∉ α) (hf : F p = none) (hd : Own wd K mg F α H p d) (hn : d.open = true) : Rel wd K mg (α ++ [p]) F H (S ++ [d]) := by
  have ex : ∃ o, H p = some o := by
    cases d with
    | lst ds => obtain ⟨xs, e, _⟩ := hd; exact ⟨_, e⟩
    | dct kvs => obtain ⟨xs, e, _⟩ := hd; exact ⟨_, e⟩
    | dcn kvs => obtain ⟨xs, e, _⟩ := hd; exact ⟨_, e⟩
    | non => cases hn
    | lck _ => cases hn
    | lam _ _ _ _ _ => obtain ⟨_, ps, e, _⟩ := hd; exact ⟨_, e⟩
    | exc _ _ => obtain ⟨_, _, e, _⟩ := hd; exact ⟨_, e⟩
    | _ => exact hd.elim
  refine ⟨r.sub, by rw [List.length_append, List.length_append, r.len]; rfl, ?_, fun a h => ?_, fun k a e h1 h2 => ?_⟩
  · refine List.nodup_append.mpr ⟨r.nd, by simp, fun a ha b hb z => ?_⟩
    have : b = p := by simpa using hb
    subst this; subst z
    exact hp ha
  · rcases List.mem_append.mp h with h | h
    · exact r.here a h
    · have : a = p := by simpa using h
      subst this
      exact ex
  · have hk : k < (α ++ [p]).length := (List.getElem?_eq_some_iff.mp h1).1
    by_cases q : k < α.length
    · rw [List.getElem?_append_left q] at h1
      rw [List.getElem?_append_left (by rw [← r.len]; exact q)] at h2
      obtain ⟨h3, h4⟩ := r.own k a e h1 h2
      exact ⟨h3.mono (Sub.refl F) rfl, h4⟩
    · have hk' : k = α.length := by rw [List.length_append] at hk; simp at hk; omega
      subst hk'
      rw [List.getElem?_append_right (Nat.le_refl _), Nat.sub_self] at h1
      rw [r.len, List.getElem?_append_right (Nat.le_refl _), Nat.sub_self] at h2
      simp at h1 h2
      subst h1; subst h2
      exact ⟨hd.mono (Sub.refl F) rfl, fun _ => hf⟩
/-- a thing that stands by itself stands for good -/
theorem Rel.freeze (r : Rel wd K mg α F H S) {p : Addr} {o : HO} (hp : p ∉ α) (hf : F p = none) (ho : H p = some o) : Rel wd K mg α (upd F p o) H S ∧ Sub F (upd F p o) := by
  have sb : Sub F (upd F p o) := Sub.new hf
  refine ⟨⟨fun a u e => ?_, r.len, r.nd, r.here, fun k a d h1 h2 => ?_⟩, sb⟩
  · by_cases z : a = p
    · subst z; rw [upd_same] at e; rw [ho]; exact e
    · rw [upd_ne z] at e; exact r.sub _ _ e
  · obtain ⟨h3, h4⟩ := r.own k a d h1 h2
    have z : a ≠ p := fun z => hp (z ▸ List.mem_of_getElem? h1)
    have h5 : Own wd K mg (upd F p o) (α ++ []) H a d := h3.mono sb rfl
    rw [List.append_nil] at h5
    exact ⟨h5, fun hd => by rw [upd_ne z]; exact h4 hd⟩
end
/-! ### what is wanted of a result -/
def ErrAt (wd : World) (K : Fg) (mg : Str → Option Value) (F : Hp) (α : List Addr) (c : Str) (fs : List (Str × D)) (cls : Value) (dd : Option Addr) (H : Hp) : Prop :=
  mg c = some cls ∧ ((fs = [] ∧ dd = none) ∨ ∃ d xs, dd = some d ∧ F d = some (.xd xs) ∧ xs.map (·.1) = fs.map (·.1) ∧ DVs wd K mg F α (xs.map (·.2)) (fs.map (·.2)))
abbrev RelT (B A : Type) := Hp → List Addr → B → A → Prop
def wp {A B : Type} (wd : World) (K : Fg) (mg : Str → Option Value) (α : List Addr) (F H : Hp) (rel : RelT B A) (r : Res A) (Q : B → Hp → Prop) (W : XK) : Prop := match r with
  | .ok a S' => ∀ b H' β F', Rel wd K mg (α ++ β) F' H' S' → Stp α F H β F' H' → rel F' (α ++ β) b a → Q b H'
  | .err c fs S' => ∀ cls dd H' β F', Rel wd K mg (α ++ β) F' H' S' → Stp α F H β F' H' → ErrAt wd K mg F' (α ++ β) c fs cls dd H' → W cls dd H'
  | .stuck => False
section
variable {A B A' B' : Type} {wd : World} {K : Fg} {mg : Str → Option Value} {α β : List Addr} {F F1 H H1 : Hp} {S : Sto} {rel : RelT B A} {rel' : RelT B' A'} {r : Res A} {Q Q1 : B → Hp → Prop} {Q' : B' → Hp → Prop} {W : XK}
theorem wp.step (st : Stp α F H β F1 H1) (h : wp wd K mg α F H rel r Q W) : wp wd K mg (α ++ β) F1 H1 rel r Q W := by
  cases r with
  | ok a S' => intro b H' γ F' hr hs hv; rw [List.append_assoc] at hr hv; exact h b H' (β ++ γ) F' hr (st.trans hs) hv
  | err c fs S' => intro cls dd H' γ F' hr hs hv; rw [List.append_assoc] at hr hv; exact h cls dd H' (β ++ γ) F' hr (st.trans hs) hv
  | stuck => exact h
theorem wp.bind {f : A → Sto → Res A'} (h : wp wd K mg α F H rel' (r.bind f) Q' W)
    (k : ∀ a S1, r = .ok a S1 → ∀ x H1 β F1, Rel wd K mg (α ++ β) F1 H1 S1 → Stp α F H β F1 H1 → rel F1 (α ++ β) x a → wp wd K mg (α ++ β) F1 H1 rel' (f a S1) Q' W → Q1 x H1) : wp wd K mg α F H rel r Q1 W := by
  cases r with
  | ok a S' => exact fun b H' β F' hr hs hv => k a S' rfl b H' β F' hr hs hv (wp.step hs h)
  | err c fs S' => exact h
  | stuck => exact h
theorem wp.imp (h : wp wd K mg α F H rel r Q W) (k : ∀ b H', Q b H' → Q1 b H') : wp wd K mg α F H rel r Q1 W := by
  cases r with
  | ok a S' => exact fun b H' β F' hr hs hv => k b H' (h b H' β F' hr hs hv)
  | err c fs S' => exact h
  | stuck => exact h
/-- a result that is at hand -/
theorem wp.now {a : A} (h : wp wd K mg α F H rel (.ok a S) Q W) (hr : Rel wd K mg α F H S) {b : B} (hv : rel F α b a) : Q b H := by
  have e : α ++ [] = α := List.append_nil α
  exact h b H [] F (by rw [e]; exact hr) Stp.refl (by rw [e]; exact hv)
theorem wp.lift {o : Option A} (h : wp wd K mg α F H rel (.lift o S) Q W) : ∃ a, o = some a ∧ wp wd K mg α F H rel (.ok a S) Q W := by
  cases o with
  | some a => exact ⟨a, rfl, h⟩
  | none => exact h.elim
end
def Slots (wd : World) (K : Fg) (mg : Str → Option Value) (F : Hp) (α : List Addr) (σ : L2.St) (δ : Sl) : Prop :=
  σ.length = δ.length ∧ ∀ (i : Nat) (d : D), δ[i]? = some (some d) → ∃ v, σ[i]? = some (some v) ∧ DV wd K mg F α v d
theorem Slots.mono {wd : World} {K : Fg} {mg : Str → Option Value} {F F' : Hp} {α β : List Addr} {σ : L2.St} {δ : Sl} (h : Slots wd K mg F α σ δ) (s : Sub F F') : Slots wd K mg F' (α ++ β) σ δ :=
  ⟨h.1, fun i d e => let ⟨v, h1, h2⟩ := h.2 i d e; ⟨v, h1, h2.mono s⟩⟩
theorem Slots.set {wd : World} {K : Fg} {mg : Str → Option Value} {F : Hp} {α : List Addr} {σ : L2.St} {δ : Sl} {i : Nat} {v : V} {d : D} (h : Slots wd K mg F α σ δ) (hv : DV wd K mg F α v d) : Slots wd K mg F α (σ.set i (some v)) (δ.set i (some d)) := by
  refine ⟨by rw [List.length_set, List.length_set]; exact h.1, fun j e g => ?_⟩
  by_cases z : j = i
  · subst z
    have hj : j < δ.length := by
      have := (List.getElem?_eq_some_iff.mp g).1
      rw [List.length_set] at this; exact this
    rw [List.getElem?_set_self hj] at g
    cases g
    exact ⟨v, List.getElem?_set_self (by rw [h.1]; exact hj), hv⟩
  · rw [List.getElem?_set_ne (Ne.symm z)] at g
    rw [List.getElem?_set_ne (Ne.symm z)]
    exact h.2 j e g
def relD (wd : World) (K : Fg) (mg : Str → Option Value) : RelT V D := fun F α v d => DV wd K mg F α v d
def relB : RelT Bool Bool := fun _ _ b a => b = a
def relA (wd : World) (K : Fg) (mg : Str → Option Value) : RelT (List V) (List D) := fun F α v d => DVs wd K mg F α v d
def SndE (wd : World) (K : Fg) (mg : Str → Option Value) (W : WX) (t : TE) (r : RE) : Prop := ∀ α F σ H δ S (Q : VK), Rel wd K mg α F H S → Slots wd K mg F α σ δ → wp wd K mg α F H (relD wd K mg) (r δ S) Q (fun c d H' => W c d σ H') → t σ H Q
def SndB (wd : World) (K : Fg) (mg : Str → Option Value) (W : WX) (t : TT) (r : RB) : Prop := ∀ α F σ H δ S (Q : Bool → Hp → Prop), Rel wd K mg α F H S → Slots wd K mg F α σ δ → wp wd K mg α F H relB (r δ S) Q (fun c d H' => W c d σ H') → t σ H Q
def SndA (wd : World) (K : Fg) (mg : Str → Option Value) (W : WX) (t : TA) (r : RA) : Prop := ∀ α F σ H δ S (Q : List V → Hp → Prop), Rel wd K mg α F H S → Slots wd K mg F α σ δ → wp wd K mg α F H (relA wd K mg) (r δ S) Q (fun c d H' => W c d σ H') → t σ H Q
/-- an expression, a test, arguments by their mirrors -/
structure PD (X : Cx) (W : WX) (e : Expr) (r : RE) : Prop where
  ex : ∃ t, PE X e t ∧ SndE X.w X.K X.mg W t r
structure PB (X : Cx) (W : WX) (e : Expr) (r : RB) : Prop where
  ex : ∃ t, PT X e t ∧ SndB X.w X.K X.mg W t r
structure PBw (X : Cx) (W : WX) (e : Expr) (r : RB) : Prop where
  ex : ∃ t, PW X e t ∧ SndB X.w X.K X.mg W t r
structure PDs (X : Cx) (W : WX) (es : List Expr) (r : RA) : Prop where
  ex : ∃ t, PA X es t ∧ SndA X.w X.K X.mg W t r
  len : ∀ δ S ds S', r δ S = .ok ds S' → ds.length = es.length
section
variable {X : Cx} {W : WX} {a b c e : Expr} {es rest : List Expr} {ra rb rc : RE} {ba bb : RB} {rs : RA} {pos p : Pos}
theorem pd_var (i : Nat) {x : Str} {pos : Pos} (hN : X.N[i]? = some x := by rfl) (hv : Vis X.env.scope x := by first | exact Or.inl rfl | exact Or.inr (Or.inl rfl) | exact Or.inr (Or.inr rfl)) (hd : (x == ("__debug__" : Str)) = false := by decide) (hcd : (x == ("__classdict__" : Str)) = false := by decide) : PD X W (.Name x pos) (rVar i) := by
  refine ⟨tVar i, pe_var hN hv hd hcd, fun α F σ H δ S Q hr hs h => ?_⟩
  unfold rVar at h
  split at h
  · rename_i d e
    obtain ⟨v, h1, h2⟩ := hs.2 i d e
    exact ⟨v, h1, h.now hr h2⟩
  · exact h.elim
theorem pd_c {d : D} {v : V} (h : PE X e (tC v)) (hv : ∀ F α, DV X.w X.K X.mg F α v d) : PD X W e (rC d) := ⟨tC v, h, fun α F σ H δ S Q hr hs h => h.now hr (hv F α)⟩
theorem pd_int {i : Int} {j : Nat} : PD X W (.Constant (.int i) j pos) (rC (.int i)) := pd_c pe_int fun _ _ => .int i
theorem pd_bl {i : Bool} {j : Nat} : PD X W (.Constant (.bool i) j pos) (rC (.bl i)) := pd_c pe_bl fun _ _ => .bl i
theorem pd_non {j : Nat} : PD X W (.Constant .none j pos) (rC .non) := pd_c pe_non fun _ _ => .non
theorem pd_str {x : Str} {j : Nat} : PD X W (.Constant (.str x) j pos) (rC (.str x)) := pd_c pe_str fun _ _ => .str x
/-- a module's constant: an int, a text -/
theorem pd_gi {x : Str} {i : Int} {t : Tok} (hm : X.mg x = some (.int i t)) (hg : Gl X x := by rfl) (hd : (x == ("__debug__" : Str)) = false := by decide) : PD X W (.Name x pos) (rC (.int i)) := pd_c (v := .int i) (pe_glob hg hm ⟨t, rfl⟩ hd) fun _ _ => .int i
theorem pd_gs {x y : Str} {t : Tok} (hm : X.mg x = some (.str y t)) (hg : Gl X x := by rfl) (hd : (x == ("__debug__" : Str)) = false := by decide) : PD X W (.Name x pos) (rC (.str y)) := pd_c (v := .str y) (pe_glob hg hm ⟨t, rfl⟩ hd) fun _ _ => .str y
/-! operators by values -/
def OkG (X : Cx) (r : R2) (g : Sto → D → D → Option D) : Prop := ∀ α F H S (x y : V) (d e z : D) (Q : VK), Rel X.w X.K X.mg α F H S → DV X.w X.K X.mg F α x d → DV X.w X.K X.mg F α y e → g S d e = some z →
  (∀ v H' β F', Rel X.w X.K X.mg (α ++ β) F' H' S → Stp α F H β F' H' → DV X.w X.K X.mg F' (α ++ β) v z → Q v H') → r x y H Q
structure OpG (X : Cx) (f : Value → Value → Sem Value) (g : Sto → D → D → Option D) : Prop where
  ex : ∃ r, OpR X f r ∧ OkG X r g
theorem SndE.bin {wd : World} {K : Fg} {mg : Str → Option Value} {ta tb : TE} {g : Sto → D → D → Option D} {k : V → V → Hp → VK → Prop} (sa : SndE wd K mg W ta ra) (sb : SndE wd K mg W tb rb)
    (hk : ∀ α F H S (x y : V) (d e z : D) (Q : VK), Rel wd K mg α F H S → DV wd K mg F α x d → DV wd K mg F α y e → g S d e = some z →
      (∀ v H' β F', Rel wd K mg (α ++ β) F' H' S → Stp α F H β F' H' → DV wd K mg F' (α ++ β) v z → Q v H') → k x y H Q) :
    SndE wd K mg W (fun σ H Q => ta σ H fun x H1 => tb σ H1 fun y H2 => k x y H2 Q) (rBin g ra rb) := by
  intro α F σ H δ S Q hr hs h
  refine sa α F σ H δ S _ hr hs (wp.bind h fun d S1 _ x H1 β F1 r1 s1 v1 h1 => ?_)
  refine sb (α ++ β) F1 σ H1 δ S1 _ r1 (hs.mono s1.sub) (wp.bind h1 fun e S2 _ y H2 γ F2 r2 s2 v2 h2 => ?_)
  obtain ⟨z, e1, h3⟩ := wp.lift h2
  exact hk (α ++ β ++ γ) F2 H2 S2 x y d e z Q r2 (v1.mono s2.sub) v2 e1 fun v H' ε F' r3 s3 v3 => h3 v H' ε F' r3 s3 v3
theorem pd_bin {op : Operator} {g : Sto → D → D → Option D} (ho : OpG X (binaryOp op) g) (ha : PD X W a ra) (hb : PD X W b rb) : PD X W (.BinOp a op b pos) (rBin g ra rb) := by
  obtain ⟨r, h1, h2⟩ := ho.ex
  obtain ⟨ta, pa, sa⟩ := ha.ex
  obtain ⟨tb, pb, sb⟩ := hb.ex
  exact ⟨_, pe_op h1 pa pb, sa.bin sb h2⟩
theorem pd_cmp {op : CmpOp} {g : Sto → D → D → Option D} (ho : OpG X (compareOp op) g) (ha : PD X W a ra) (hb : PD X W b rb) (hm : behindInMarks op b = false) : PD X W (.Compare a [op] [b] pos) (rBin g ra rb) := by
  obtain ⟨r, h1, h2⟩ := ho.ex
  obtain ⟨ta, pa, sa⟩ := ha.ex
  obtain ⟨tb, pb, sb⟩ := hb.ex
  exact ⟨_, pe_cmpR h1 pa pb hm, sa.bin sb h2⟩
/-- the truth of a True or False -/
def bVal (a : RE) : RB := fun δ S => (a δ S).bind fun x S1 => match x with
  | .bl b => .ok b S1
  | _ => .stuck
theorem SndE.val {wd : World} {K : Fg} {mg : Str → Option Value} {t : TE} (s : SndE wd K mg W t ra) : SndB wd K mg W (tTest t) (bVal ra) := by
  intro α F σ H δ S Q hr hs h
  refine s α F σ H δ S _ hr hs (wp.bind h fun d S1 _ x H1 β F1 r1 s1 v1 h1 => ?_)
  cases d with
  | bl b => cases v1; exact ⟨b, rfl, h1.now r1 rfl⟩
  | _ => exact h1.elim
theorem pb_cmp {op : CmpOp} {g : Sto → D → D → Option D} (ho : OpG X (compareOp op) g) (ha : PD X W a ra) (hb : PD X W b rb) (hm : behindInMarks op b = false) : PB X W (.Compare a [op] [b] pos) (bVal (rBin g ra rb)) := by
  obtain ⟨r, h1, h2⟩ := ho.ex
  obtain ⟨ta, pa, sa⟩ := ha.ex
  obtain ⟨tb, pb, sb⟩ := hb.ex
  exact ⟨_, pt_cmpR h1 pa pb hm, (sa.bin sb h2).val⟩
end
end DL
set_option Elab.async false
set_option linter.all false
set_option maxRecDepth 100000
set_option maxHeartbeats 4000000
set_option autoImplicit false
/-! Data layer, third part: calls, tests, statements, loops, comprehensions, defs. -/
namespace DL
open PySem PySem.Spec PyProof.Rows L2
section
variable {X : Cx} {W : WX} {a b c e : Expr} {es rest : List Expr} {ra rb rc : RE} {ba bb : RB} {rs : RA} {pos p : Pos} {wd : World} {K : Fg} {mg : Str → Option Value}
/-! ### one value -/
def OkU (X : Cx) (r : V → Hp → VK → Prop) (g : Sto → D → Option D) : Prop := ∀ α F H S (x : V) (d z : D) (Q : VK), Rel X.w X.K X.mg α F H S → DV X.w X.K X.mg F α x d → g S d = some z →
  (∀ v H' β F', Rel X.w X.K X.mg (α ++ β) F' H' S → Stp α F H β F' H' → DV X.w X.K X.mg F' (α ++ β) v z → Q v H') → r x H Q
theorem SndE.un {ta : TE} {g : Sto → D → Option D} {k : V → Hp → VK → Prop} (sa : SndE wd K mg W ta ra)
    (hk : ∀ α F H S (x : V) (d z : D) (Q : VK), Rel wd K mg α F H S → DV wd K mg F α x d → g S d = some z → (∀ v H' β F', Rel wd K mg (α ++ β) F' H' S → Stp α F H β F' H' → DV wd K mg F' (α ++ β) v z → Q v H') → k x H Q) :
    SndE wd K mg W (fun σ H Q => ta σ H fun x H1 => k x H1 Q) (rUn g ra) := by
  intro α F σ H δ S Q hr hs h
  refine sa α F σ H δ S _ hr hs (wp.bind h fun d S1 _ x H1 β F1 r1 s1 v1 h1 => ?_)
  obtain ⟨z, e1, h3⟩ := wp.lift h1
  exact hk (α ++ β) F1 H1 S1 x d z Q r1 v1 e1 fun v H' ε F' r3 s3 v3 => h3 v H' ε F' r3 s3 v3
theorem pd_un {op : UnaryOp} {r : V → Hp → VK → Prop} {g : Sto → D → Option D} (ho : UnR X (unaryOp op) r) (hg : OkU X r g) (ha : PD X W a ra) : PD X W (.UnaryOp op a pos) (rUn g ra) := by
  obtain ⟨ta, pa, sa⟩ := ha.ex
  exact ⟨_, pe_un ho pa, sa.un hg⟩
/-! ### arguments, displays -/
theorem pds_nil : PDs X W [] rNil := ⟨⟨tNil, pa_nil, fun α F σ H δ S Q hr hs h => h.now hr .nil⟩, fun δ S ds S' h => by cases h; rfl⟩
theorem SndE.cons {te : TE} {t : TA} (s1 : SndE wd K mg W te ra) (s2 : SndA wd K mg W t rs) : SndA wd K mg W (tCons te t) (rCons ra rs) := by
  intro α F σ H δ S Q hr hs h
  refine s1 α F σ H δ S _ hr hs (wp.bind h fun d S1 _ x H1 β F1 r1 q1 v1 h1 => ?_)
  refine s2 (α ++ β) F1 σ H1 δ S1 _ r1 (hs.mono q1.sub) (wp.bind h1 fun e S2 _ y H2 γ F2 r2 q2 v2 h2 => ?_)
  exact h2.now r2 (.cons (v1.mono q2.sub) v2)
theorem pds_cons (ha : PD X W e ra) (hr : PDs X W es rs) (hs : starEach (e :: es) X.env = (false, eval e X.env) :: starEach es X.env := by rfl) : PDs X W (e :: es) (rCons ra rs) := by
  obtain ⟨ta, pa, sa⟩ := ha.ex
  obtain ⟨t, pt, st⟩ := hr.ex
  refine ⟨⟨_, pa_cons pa pt hs, sa.cons st⟩, fun δ S ds S' h => ?_⟩
  unfold rCons at h
  cases q : ra δ S with
  | ok d S1 =>
    rw [q] at h
    have h' : (rs δ S1).bind (fun ys S2 => .ok (d :: ys) S2) = .ok ds S' := h
    cases q2 : rs δ S1 with
    | ok ys S2 =>
      rw [q2] at h'
      have h2 : Res.ok (d :: ys) S2 = .ok ds S' := h'
      cases h2
      rw [List.length_cons, List.length_cons, hr.len _ _ _ _ q2]
    | err c fs S2 => rw [q2] at h'; cases h'
    | stuck => rw [q2] at h'; cases h'
  | err c fs S1 => rw [q] at h; cases h
  | stuck => rw [q] at h; cases h
/-- a new tuple, a new list at p -/
theorem PlT.new {K : Fg} {F : Hp} {p : Addr} {xs : List V} {o : Obj} (h : o.dict = none) : PlT K (upd F p (.frz o (.tup xs))) p xs := ⟨.inl (.inr ⟨o, upd_same⟩), .inl ⟨o, upd_same, h⟩⟩
theorem Rel.tup {α : List Addr} {F H : Hp} {S : Sto} {xs : List V} {ds : List D} (hr : Rel wd K mg α F H S) (hv : DVs wd K mg F α xs ds) {p : Addr} {o : Obj} (hp : H p = none) (ho : o.dict = none) : Rel wd K mg (α ++ []) (upd F p (.frz o (.tup xs))) (upd H p (.frz o (.tup xs))) S ∧ Stp α F H [] (upd F p (.frz o (.tup xs))) (upd H p (.frz o (.tup xs))) ∧ DV wd K mg (upd F p (.frz o (.tup xs))) (α ++ []) (.ref p) (.tup ds) := by
  obtain ⟨h1, h2⟩ := hr.newF (o := .frz o (.tup xs)) hp
  exact ⟨h1, h2, .tup (PlT.new ho) (hv.mono h2.sub)⟩
theorem Rel.lst {α : List Addr} {F H : Hp} {S : Sto} {xs : List V} {ds : List D} (hr : Rel wd K mg α F H S) (hv : DVs wd K mg F α xs ds) {p : Addr} (hp : H p = none) : Rel wd K mg (α ++ []) (upd F p (.lst xs)) (upd H p (.lst xs)) S ∧ Stp α F H [] (upd F p (.lst xs)) (upd H p (.lst xs)) ∧ DV wd K mg (upd F p (.lst xs)) (α ++ []) (.ref p) (.lst ds) := by
  obtain ⟨h1, h2⟩ := hr.newF (o := .lst xs) hp
  exact ⟨h1, h2, .lst (.inl (Rd.of upd_same)) (hv.mono h2.sub)⟩
theorem pd_tup {x1 : Nat} (h : PDs X W es rs) : PD X W (.Tuple es x1 pos) (rTup rs) := by
  obtain ⟨t, pt, st⟩ := h.ex
  refine ⟨_, pe_tupP pt, fun α F σ H δ S Q hr hs h => ?_⟩
  refine st α F σ H δ S _ hr hs (wp.bind h fun ds S1 _ xs H1 β F1 r1 q1 v1 h1 => ?_)
  split at h1
  · rename_i hl
    refine ⟨by rw [v1.length]; exact hl, fun q hq o ho => ?_⟩
    obtain ⟨a1, a2, a3⟩ := r1.tup v1 hq ho
    exact h1 _ _ _ _ a1 a2 a3
  · exact h1.elim
/-- a thing that is made, at p: it may stand for good, or be the store's -/
def wpF (wd : World) (K : Fg) (mg : Str → Option Value) (α : List Addr) (F H : Hp) (r : Res D) (Q : VK) (W : XK) : Prop := match r with
  | .ok d S' => ∀ p H' β F', Rel wd K mg (α ++ β) F' H' S' → Stp α F H β F' H' → H p = none → p ∉ α ++ β → F' p = none → Own wd K mg F' (α ++ β) H' p d → d.open = true → Q (.ref p) H'
  | .err c fs S' => ∀ cls dd H' β F', Rel wd K mg (α ++ β) F' H' S' → Stp α F H β F' H' → ErrAt wd K mg F' (α ++ β) c fs cls dd H' → W cls dd H'
  | .stuck => False
theorem wpF.step {α β : List Addr} {F H F1 H1 : Hp} {r : Res D} {Q : VK} {W : XK} (st : Stp α F H β F1 H1) (h : wpF wd K mg α F H r Q W) : wpF wd K mg (α ++ β) F1 H1 r Q W := by
  cases r with
  | ok d S' =>
    intro p H' γ F' hr hs hp ha hf ho hd
    rw [List.append_assoc] at hr ha ho
    exact h p H' (β ++ γ) F' hr (st.trans hs) (st.live p hp) ha hf ho hd
  | err c fs S' => intro cls dd H' γ F' hr hs hv; rw [List.append_assoc] at hr hv; exact h cls dd H' (β ++ γ) F' hr (st.trans hs) hv
  | stuck => exact h
structure PF (X : Cx) (W : WX) (e : Expr) (r : RE) : Prop where
  ex : ∃ t, PE X e t ∧ ∀ α F σ H δ S (Q : VK), Rel X.w X.K X.mg α F H S → Slots X.w X.K X.mg F α σ δ → wpF X.w X.K X.mg α F H (r δ S) Q (fun c d H' => W c d σ H') → t σ H Q
theorem wpF.bind {A B : Type} {α : List Addr} {F H : Hp} {rel : RelT B A} {r : Res A} {f : A → Sto → Res D} {Q : VK} {Q1 : B → Hp → Prop} {W : XK} (h : wpF wd K mg α F H (r.bind f) Q W)
    (k : ∀ a S1, r = .ok a S1 → ∀ x H1 β F1, Rel wd K mg (α ++ β) F1 H1 S1 → Stp α F H β F1 H1 → rel F1 (α ++ β) x a → wpF wd K mg (α ++ β) F1 H1 (f a S1) Q W → Q1 x H1) : wp wd K mg α F H rel r Q1 W := by
  cases r with
  | ok a S' => exact fun b H' β F' hr hs hv => k a S' rfl b H' β F' hr hs hv (wpF.step hs h)
  | err c fs S' => exact h
  | stuck => exact h
/-- a new list, laid now -/
theorem wpF.lay {α : List Addr} {F H : Hp} {S : Sto} {Q : VK} {W : XK} {p : Addr} {o : HO} {d : D} (h : wpF wd K mg α F H (.ok d S) Q W) (hr : Rel wd K mg α F H S) (hp : H p = none) (ho : Own wd K mg F α (upd H p o) p d) (hd : d.open = true) : Q (.ref p) (upd H p o) := by
  have e : α ++ [] = α := List.append_nil α
  have n := hr.notin hp
  have f := hr.notF hp
  exact h p _ [] F (by rw [e]; exact hr.other n f) (Stp.refl.other hp) hp (by rw [e]; exact n) f (by rw [e]; exact ho) hd
theorem pd_own (h : PF X W e ra) : PD X W e (rOwn ra) := by
  obtain ⟨t, pt, st⟩ := h.ex
  refine ⟨t, pt, fun α F σ H δ S Q hr hs h => st α F σ H δ S Q hr hs ?_⟩
  unfold rOwn at h
  cases q : ra δ S with
  | ok d S' =>
    rw [q] at h
    intro p H' β F' r1 s1 hp ha hf ho hd
    have h2 : wp X.w X.K X.mg α F H (relD X.w X.K X.mg) (.ok (.ptr S'.length) (S' ++ [d])) Q _ := h
    refine h2 (.ref p) H' (β ++ [p]) F' ?_ ⟨fun b hb => ?_, s1.sub, s1.frame, s1.live, s1.fnew⟩ ?_
    · rw [← List.append_assoc]
      exact r1.adopt ha hf ho hd
    · rcases List.mem_append.mp hb with z | z
      · exact s1.new b z
      · have : b = p := by simpa using z
        rw [this]; exact hp
    · rw [← List.append_assoc]
      refine .ptr ?_
      rw [List.getElem?_append_right (by rw [r1.len]; exact Nat.le_refl _), r1.len, Nat.sub_self] <;> rfl
  | err c fs S' => rw [q] at h; exact h
  | stuck => rw [q] at h; exact h
/-- a list that stands for good -/
def rKeep (a : RE) : RE := fun δ S => (a δ S).bind fun d S1 => match d with
  | .lst ds => .ok (.lst ds) S1
  | _ => .stuck
theorem pd_keep (h : PF X W e ra) : PD X W e (rKeep ra) := by
  obtain ⟨t, pt, st⟩ := h.ex
  refine ⟨t, pt, fun α F σ H δ S Q hr hs h => st α F σ H δ S Q hr hs ?_⟩
  unfold rKeep at h
  cases q : ra δ S with
  | ok d S' =>
    rw [q] at h
    intro p H' β F' r1 s1 hp ha hf ho hd
    cases d with
    | lst ds =>
      have h2 : wp X.w X.K X.mg α F H (relD X.w X.K X.mg) (.ok (.lst ds) S') Q _ := h
      obtain ⟨xs, o1, o2⟩ := ho
      obtain ⟨a1, a2⟩ := r1.freeze (o := .lst xs) ha hf o1
      exact h2 (.ref p) H' β (upd F' p (.lst xs)) a1 ⟨s1.new, s1.sub.trans a2, s1.frame, s1.live, fun a g1 g2 g3 => by
        have z : a ≠ p := fun z => g3 (z ▸ hp)
        rw [upd_ne z]; exact s1.fnew a g1 g2 g3⟩ (.lst (.inl (Rd.of upd_same)) (by have := o2.mono (β := []) a2; rw [List.append_nil] at this; exact this))
    | _ => exact (show False from h).elim
  | err c fs S' => rw [q] at h; exact h
  | stuck => rw [q] at h; exact h
theorem pf_lst (h : PDs X W es rs) : PF X W (.List es pos) (rLst rs) := by
  obtain ⟨t, pt, st⟩ := h.ex
  refine ⟨_, pe_lst pt, fun α F σ H δ S Q hr hs h => ?_⟩
  refine st α F σ H δ S _ hr hs (wpF.bind h fun ds S1 _ xs H1 β F1 r1 q1 v1 h1 => ?_)
  split at h1
  · rename_i hl
    refine ⟨by rw [v1.length]; exact hl, fun p hp => h1.lay r1 hp ⟨xs, upd_same, v1⟩ rfl⟩
  · exact h1.elim
/-! ### calls -/
def spD (wd : World) (K : Fg) (mg : Str → Option Value) (n : Nat) (m : Mir) : Sp := fun vs H Q E => vs.length = n ∧ ∃ α F S ds, Rel wd K mg α F H S ∧ DVs wd K mg F α vs ds ∧ wp wd K mg α F H (relD wd K mg) (m ds S) Q E
/-- a def that keeps its promise where no repr is under way -/
structure FnG (P : Program) (w : World) (K : Fg) (mg : Str → Option Value) (base : Heap) (k : Nat) (f : Addr) (fd : FuncData) (ps : List Str) (sp : Sp) : Prop where
  len : ∀ vs H Q E, sp vs H Q E → vs.length = ps.length
  run : ∀ (A : Around) (outer : List Env) (s : Shared) (H : Hp) (args : Args) (us : List Value) (vs : List V) (Q : VK) (E : XK), Room k A → A.guards = some [] → Env0 P w K mg base A outer s H → BindsTo s fd args (ps.zip us) → Vals vs us → sp vs H Q E → codeAny (model P w) A (.call (.ref f) args) (CR (L2.CX P w) outer P w H s Q E) s
theorem FnG.call {k : Nat} {f : Addr} {fd : FuncData} {ps : List Str} {sp : Sp} {pins : List (Addr × Obj)} {σ : L2.St} {H : Hp} {s : Shared} {Q : VK} {us : List Value} {vs : List V} (F : FnG X.prog X.w X.K X.mg X.base k f fd ps sp) (hr : Room k X.A) (hG : X.A.guards = some []) (hb : Binds X.K fd ps []) (tk : Takes X W)
    (I : Inv X pins σ H s) (r : Vals vs us) (h : sp vs H Q (WE W σ)) : wpAny (model X.prog X.w) X.A (call (.ref f) us) (EP X pins σ Q) X.xe s := by
  have hl := r.length.symm.trans (F.len vs H Q _ h)
  have b : BindsTo s fd ⟨us, []⟩ (ps.zip us) := by simpa only [List.append_nil] using hb s us I.kIn (by simpa only [List.append_nil] using hl)
  refine wpAny_call (codeAny_mono (F.run _ _ s H _ us vs Q _ hr hG I.env0 b r h) ?_)
  intro res s' q
  cases res with
  | error e => exact passAt tk σ pins H s e s' I q
  | ok fl => cases fl with
    | ret u => exact I.after q
    | next => exact q.elim
    | brk => exact q.elim
    | cont => exact q.elim
theorem pd_call {x : Str} {m : Mir} {n k : Nat} {f : Addr} {fd : FuncData} {ps : List Str} (F : FnG X.prog X.w X.K X.mg X.base k f fd ps (spD X.w X.K X.mg n m)) (hr : Room k X.A) (hG : X.A.guards = some []) (hm : X.mg x = some (.ref f)) (hk : PySem.W.keepIn X.K (.ref f) = true)
    (hb : Binds X.K fd ps []) (tk : Takes X W) (ha : PDs X W (e :: es) rs) (hl : (e :: es).length = n := by rfl) (hg : Gl X x := by rfl) (hdb : (x == ("__debug__" : Str)) = false := by decide)
    (he : starEach (e :: es) X.env = (false, eval e X.env) :: starEach es X.env := by rfl) (hpl : (backTo pos (starEach es X.env)).any (·.1) = false := by rfl) :
    PD X W (.Call (.Name x p) (e :: es) [] pos) (rCall m rs) := by
  obtain ⟨t, pt, st⟩ := ha.ex
  refine ⟨tCallS (spD X.w X.K X.mg n m) (WE W) t, ⟨fun pins s σ H Q I h => wpAny_Call_Name_kw (ld_glob I hg hm ?_ hdb)⟩, fun α F σ H δ S Q hr hs h => ?_⟩
  · exact PySem.W.callWith_K (h₀ := X.base) I.ok.mod.kin hk (thn (pt.run pos pins s σ H _ I h) fun us s1 ⟨vs, H1, I1, r, q⟩ => ⟨I1.kIn, F.call hr hG hb tk I1 r q⟩) he hpl
  · refine st α F σ H δ S _ hr hs (wp.bind h fun ds S1 e1 xs H1 β F1 r1 q1 v1 h1 => ?_)
    exact ⟨by rw [v1.length, ha.len _ _ _ _ e1]; exact hl, α ++ β, F1, S1, ds, r1, v1, h1⟩
end
end DL
set_option Elab.async false
set_option linter.all false
set_option maxRecDepth 100000
set_option maxHeartbeats 4000000
set_option autoImplicit false
/-! Data layer, fourth part: tests, targets, statements, loops, comprehensions, defs. -/
namespace DL
open PySem PySem.Spec PyProof.Rows L2
section
variable {X : Cx} {W : WX} {a b c e : Expr} {es rest : List Expr} {ra rb rc : RE} {ba bb : RB} {rs : RA} {pos p : Pos} {wd : World} {K : Fg} {mg : Str → Option Value} {α β : List Addr} {F H : Hp} {S : Sto}
/-! ### built-in things by their values -/
def OkC (X : Cx) (r : List V → Hp → VK → Prop) (g : Sto → List D → Option D) : Prop := ∀ α F H S (xs : List V) (ds : List D) (z : D) (Q : VK), Rel X.w X.K X.mg α F H S → DVs X.w X.K X.mg F α xs ds → g S ds = some z →
  (∀ v H' β F', Rel X.w X.K X.mg (α ++ β) F' H' S → Stp α F H β F' H' → DV X.w X.K X.mg F' (α ++ β) v z → Q v H') → r xs H Q
theorem SndA.app {t : TA} {g : Sto → List D → Option D} {k : List V → Hp → VK → Prop} (sa : SndA wd K mg W t rs)
    (hk : ∀ α F H S (xs : List V) (ds : List D) (z : D) (Q : VK), Rel wd K mg α F H S → DVs wd K mg F α xs ds → g S ds = some z → (∀ v H' β F', Rel wd K mg (α ++ β) F' H' S → Stp α F H β F' H' → DV wd K mg F' (α ++ β) v z → Q v H') → k xs H Q) :
    SndE wd K mg W (fun σ H Q => t σ H fun xs H1 => k xs H1 Q) (rAs g rs) := by
  intro α F σ H δ S Q hr hs h
  refine sa α F σ H δ S _ hr hs (wp.bind h fun d S1 _ x H1 β F1 r1 s1 v1 h1 => ?_)
  obtain ⟨z, e1, h3⟩ := wp.lift h1
  exact hk (α ++ β) F1 H1 S1 x d z Q r1 v1 e1 fun v H' ε F' r3 s3 v3 => h3 v H' ε F' r3 s3 v3
/-- a built-in by its name, a class by its name -/
structure BiG (X : Cx) (f : Value) (g : Sto → List D → Option D) : Prop where
  ex : ∃ r, CallR X f r ∧ OkC X r g
theorem pd_callB {x : Str} {id : String} {g : Sto → List D → Option D} (hc : BiG X (.builtin id) g) (hm : X.mg x = none) (ha : PDs X W (e :: es) rs) (hg : Gl X x := by rfl) (hv : bootBuiltins x = some (.builtin id) := by decide +kernel) (hn : x ≠ "__name__" := by decide) (hdb : (x == ("__debug__" : Str)) = false := by decide)
    (he : starEach (e :: es) X.env = (false, eval e X.env) :: starEach es X.env := by rfl) (hpl : (backTo pos (starEach es X.env)).any (·.1) = false := by rfl) : PD X W (.Call (.Name x p) (e :: es) [] pos) (rAs g rs) := by
  obtain ⟨r, h1, h2⟩ := hc.ex
  obtain ⟨t, pt, st⟩ := ha.ex
  exact ⟨_, pe_callB h1 hg hm hv pt hn hdb he hpl, st.app h2⟩
theorem pd_callT {x : Str} {T : String} {g : Sto → List D → Option D} (hc : BiG X (.type T) g) (hm : X.mg x = none) (ha : PDs X W (e :: es) rs) (hg : Gl X x := by rfl) (hv : bootBuiltins x = some (.type T) := by decide +kernel) (hn : x ≠ "__name__" := by decide) (hdb : (x == ("__debug__" : Str)) = false := by decide)
    (he : starEach (e :: es) X.env = (false, eval e X.env) :: starEach es X.env := by rfl) (hpl : (backTo pos (starEach es X.env)).any (·.1) = false := by rfl) : PD X W (.Call (.Name x p) (e :: es) [] pos) (rAs g rs) := by
  obtain ⟨r, h1, h2⟩ := hc.ex
  obtain ⟨t, pt, st⟩ := ha.ex
  exact ⟨_, pe_callTy h1 hg hm hv pt hn hdb he hpl, st.app h2⟩
/-! ### what is seen through the store -/
/-- an owned thing, by what it holds -/
theorem Rel.owned (hr : Rel wd K mg α F H S) {k : Nat} {a : Addr} (h : α[k]? = some a) : S[k]? = some (S.getD k .non) ∧ Own wd K mg F α H a (S.getD k .non) ∧ ((S.getD k .non).open = true → F a = none) := by
  have hk : k < S.length := by rw [← hr.len]; exact (List.getElem?_eq_some_iff.mp h).1
  have e2 : S[k]? = some (S.getD k .non) := by rw [List.getD_eq_getElem?_getD]; simp [hk]
  exact ⟨e2, hr.own k a _ h e2⟩
inductive Seen (wd : World) (K : Fg) (mg : Str → Option Value) (F : Hp) (α : List Addr) (H : Hp) : V → D → Prop
  | at {v : V} {d : D} : DV wd K mg F α v d → (∀ k, d ≠ .ptr k) → Seen wd K mg F α H v d
  | dead {v : V} {k : Nat} : Seen wd K mg F α H v (.ptr k)
  | lst {a : Addr} {xs : List V} {ds : List D} : H a = some (.lst xs) → DVs wd K mg F α xs ds → Seen wd K mg F α H (.ref a) (.lst ds)
  | dct {a : Addr} {ws : List (Key × V)} {kvs : List (D × D)} : Rd H a (.dK ws) → DKs (ws.map (·.1)) (kvs.map (·.1)) → DVs wd K mg F α (ws.map (·.2)) (kvs.map (·.2)) → Seen wd K mg F α H (.ref a) (.dct kvs)
  | dcn {a : Addr} {xs : List (NestedKey × Addr × V)} {kvs : List (D × D)} : Rd H a (dN wd a xs) → NVs wd K mg F α xs kvs → Seen wd K mg F α H (.ref a) (.dcn kvs)
theorem Rel.see (hr : Rel wd K mg α F H S) {v : V} {d : D} (h : DV wd K mg F α v d) : Seen wd K mg F α H v (deref S d) := by
  cases d with
  | ptr k =>
    cases h with
    | ptr h =>
      obtain ⟨_, o, _⟩ := hr.owned h
      unfold deref
      dsimp only
      generalize hd : S.getD k .non = d at o
      cases d with
      | lst ds => obtain ⟨xs, h1, h2⟩ := o; exact .lst h1 h2
      | dct kvs => obtain ⟨ws, h1, h2, h3⟩ := o; exact .dct (.inl h1) h2 h3
      | dcn kvs => obtain ⟨ws, h1, h2⟩ := o; exact .dcn (.inl h1) h2
      | lck u =>
        cases u with
        | dct kvs => obtain ⟨o, ws, h0, h1, h2, h3⟩ := o; exact .dct (.inr ⟨o, h1⟩) h2 h3
        | dcn kvs => obtain ⟨o, ws, h0, h1, h2⟩ := o; exact .dcn (.inr ⟨o, h1⟩) h2
        | _ => exact o.elim
      | non => exact .dead
      | lam _ _ _ _ _ => exact .dead
      | exc _ _ => exact .dead
      | _ => exact o.elim
  | _ => exact .at h (fun k e => by cases e)
theorem Rel.viewL (hr : Rel wd K mg α F H S) {v : V} {d : D} {ds : List D} (h : DV wd K mg F α v d) (e : deref S d = .lst ds) : ∃ a xs, v = .ref a ∧ SqL K H a xs ∧ DVs wd K mg F α xs ds := by
  have s := hr.see h
  rw [e] at s
  cases s with
  | «at» h _ => cases h with | lst q t => exact ⟨_, _, rfl, hr.sub.sqL q, t⟩
  | lst q t => exact ⟨_, _, rfl, .inl (Rd.of q), t⟩
theorem Rel.viewT (hr : Rel wd K mg α F H S) {v : V} {d : D} {ds : List D} (h : DV wd K mg F α v d) (e : deref S d = .tup ds) : ∃ a xs, v = .ref a ∧ SqT K H a xs ∧ DVs wd K mg F α xs ds := by
  have s := hr.see h
  rw [e] at s
  cases s with
  | «at» h _ => cases h with | tup q t => exact ⟨_, _, rfl, hr.sub.sqT q.1, t⟩
theorem Rel.viewX (hr : Rel wd K mg α F H S) {v : V} {d : D} {ds : List D} (h : DV wd K mg F α v d) (e : deref S d = .tux ds) : ∃ a xs, v = .ref a ∧ SqT K H a xs ∧ DVs wd K mg F α xs ds := by
  have s := hr.see h
  rw [e] at s
  cases s with
  | «at» h _ => cases h with | tux q t => exact ⟨_, _, rfl, hr.sub.sqT q, t⟩
theorem Rel.viewI (hr : Rel wd K mg α F H S) {v : V} {d : D} {i : Int} (h : DV wd K mg F α v d) (e : deref S d = .int i) : v = .int i := by
  have s := hr.see h
  rw [e] at s
  cases s with
  | «at» h _ => cases h; rfl
theorem Rel.viewS (hr : Rel wd K mg α F H S) {v : V} {d : D} {i : Str} (h : DV wd K mg F α v d) (e : deref S d = .str i) : v = .str i := by
  have s := hr.see h
  rw [e] at s
  cases s with
  | «at» h _ => cases h; rfl
theorem DVs.isEmpty {xs : List V} {ds : List D} (h : DVs wd K mg F α xs ds) : ds.isEmpty = xs.isEmpty := by cases h <;> rfl
theorem Rel.truV (hr : Rel wd K mg α F H S) {v : V} {d : D} {k : Bool} (h : DV wd K mg F α v d) (e : truth S d = some k) : TruV K v H k := by
  have s := hr.see h
  unfold truth at e
  generalize deref S d = dd at e s
  cases s with
  | «at» h hp =>
    cases h with
    | non => cases e; rfl
    | bl b => cases e; rfl
    | int i => cases e; rfl
    | str x =>
      dsimp only at e
      split at e
      · rename_i hl; cases e; exact ⟨hl, rfl⟩
      · cases e
    | tup q t => cases e; exact .inr (.inl ⟨_, hr.sub.sqT q.1, by rw [t.isEmpty]⟩)
    | tux q t => cases e
    | lst q t => cases e; exact .inl ⟨_, hr.sub.sqL q, by rw [t.isEmpty]⟩
    | ptr _ => exact absurd rfl (hp _)
    | fn _ => cases e
    | ty _ => cases e
    | exc _ _ _ _ _ => cases e
    | dc0 _ _ => cases e
    | lam _ _ => cases e
  | dead => cases e
  | lst q t => cases e; exact .inl ⟨_, SqL.of q, by rw [t.isEmpty]⟩
  | dct h k t => cases e
  | dcn h t => cases e
/-! ### tests -/
theorem pb_tru (ha : PD X W a ra) (he : ∀ whole, isTrue a X.env whole = (do let v ← whole; standAt a.pos; holding [v] (truthy v)) := by intro _; rfl) : PB X W a (bTru ra) := by
  obtain ⟨ta, pa, sa⟩ := ha.ex
  refine ⟨_, pt_truth pa he, fun α F σ H δ S Q hr hs h => ?_⟩
  refine sa α F σ H δ S _ hr hs (wp.bind h fun d S1 _ x H1 β F1 r1 s1 v1 h1 => ?_)
  obtain ⟨k, e1, h2⟩ := wp.lift h1
  exact ⟨k, r1.truV v1 e1, h2.now r1 rfl⟩
theorem SndB.or {t u : TT} (s1 : SndB wd K mg W t ba) (s2 : SndB wd K mg W u bb) : SndB wd K mg W (tOr t u) (bOr ba bb) := by
  intro α F σ H δ S Q hr hs h
  refine s1 α F σ H δ S _ hr hs (wp.bind h fun d S1 _ x H1 β F1 r1 q1 v1 h1 => ?_)
  have e : x = d := v1
  subst e
  cases x with
  | false => exact s2 (α ++ β) F1 σ H1 δ S1 Q r1 (hs.mono q1.sub) h1
  | true => exact h1.now r1 rfl
theorem pw_or1D (ha : PB X W a ba) : PBw X W (.BoolOp .Or [a] pos) ba := let ⟨t, h, s⟩ := ha.ex; ⟨t, pw_or1 h, s⟩
theorem pw_orD (ha : PB X W a ba) (hb : PBw X W (.BoolOp .Or (b :: rest) pos) bb) : PBw X W (.BoolOp .Or (a :: b :: rest) pos) (bOr ba bb) := by
  obtain ⟨t, h1, s1⟩ := ha.ex
  obtain ⟨u, h2, s2⟩ := hb.ex
  exact ⟨_, pw_or h1 h2, s1.or s2⟩
theorem pb_w (h : PBw X W a ba) : PB X W a ba := let ⟨t, p, s⟩ := h.ex; ⟨t, p.pt, s⟩
theorem pb_not (ha : PB X W a ba) : PB X W (.UnaryOp .Not a pos) (bNot ba) := by
  obtain ⟨t, h, s⟩ := ha.ex
  refine ⟨_, pt_not h, fun α F σ H δ S Q hr hs h => ?_⟩
  refine s α F σ H δ S _ hr hs (wp.bind h fun d S1 _ x H1 β F1 r1 q1 v1 h1 => ?_)
  have e : x = d := v1
  subst e
  exact h1.now r1 rfl
/-- a < b <= c -/
def rChain (g g' : Sto → D → D → Option D) (ra rb rc : RE) : RE := fun δ S => (ra δ S).bind fun x S1 => (rb δ S1).bind fun y S2 => (Res.lift (g S2 x y) S2).bind fun z S3 => match z with
  | .bl true => (rc δ S3).bind fun u S4 => .lift (g' S4 y u) S4
  | .bl false => .ok (.bl false) S3
  | _ => .stuck
theorem pd_chain2 {op op' : CmpOp} {g g' : Sto → D → D → Option D} (ho : OpG X (compareOp op) g) (ho' : OpG X (compareOp op') g') (ha : PD X W a ra) (hb : PD X W b rb) (hc : PD X W c rc) (hm : lastMarks [op, op'] [b, c] = false := by with_unfolding_all rfl) :
    PD X W (.Compare a [op, op'] [b, c] pos) (rChain g g' ra rb rc) ∧ PB X W (.Compare a [op, op'] [b, c] pos) (bVal (rChain g g' ra rb rc)) := by
  obtain ⟨r, h1, h2⟩ := ho.ex
  obtain ⟨r', h1', h2'⟩ := ho'.ex
  obtain ⟨ta, pa, sa⟩ := ha.ex
  obtain ⟨tb, pb, sb⟩ := hb.ex
  obtain ⟨tc, pc, sc⟩ := hc.ex
  suffices q : SndE X.w X.K X.mg W (tChain r r' ta tb tc) (rChain g g' ra rb rc) from ⟨⟨_, pe_chain h1 h1' pa pb pc hm, q⟩, ⟨_, pt_chain h1 h1' pa pb pc hm, q.val⟩⟩
  intro α F σ H δ S Q hr hs h
  refine sa α F σ H δ S _ hr hs (wp.bind h fun d S1 _ x H1 β F1 r1 s1 v1 q1 => ?_)
  refine sb (α ++ β) F1 σ H1 δ S1 _ r1 (hs.mono s1.sub) (wp.bind q1 fun e S2 _ y H2 γ F2 r2 s2 v2 q2 => ?_)
  cases eg : g S2 d e with
  | none => rw [eg] at q2; exact q2.elim
  | some z =>
    rw [eg] at q2
    refine h2 (α ++ β ++ γ) F2 H2 S2 x y d e z _ r2 (v1.mono s2.sub) v2 eg fun v H3 ε F3 r3 s3 v3 => ?_
    have q3 := wp.step s3 q2
    cases z with
    | bl k =>
      cases v3
      refine ⟨k, rfl, ?_⟩
      cases k with
      | false => exact q3.now r3 (.bl false)
      | true =>
        refine sc (α ++ β ++ γ ++ ε) F3 σ H3 δ S2 _ r3 (((hs.mono s1.sub).mono s2.sub).mono s3.sub) (wp.bind q3 fun u S4 _ w H4 ζ F4 r4 s4 v4 q4 => ?_)
        obtain ⟨z', e', q5⟩ := wp.lift q4
        exact h2' _ F4 H4 S4 y w e u z' Q r4 ((v2.mono s3.sub).mono s4.sub) v4 e' fun v H' ε F' r3 s3 v3 => q5 v H' ε F' r3 s3 v3
    | _ => exact q3.elim
/-! ### and, or, not, if as values -/
theorem pd_if (hc : PB X W c ba) (ha : PD X W a ra) (hb : PD X W b rb) : PD X W (.IfExp c a b pos) (rIf ba ra rb) := by
  obtain ⟨tc, pc, sc⟩ := hc.ex
  obtain ⟨ta, pa, sa⟩ := ha.ex
  obtain ⟨tb, pb, sb⟩ := hb.ex
  refine ⟨_, pe_ifExp pc pa pb, fun α F σ H δ S Q hr hs h => ?_⟩
  refine sc α F σ H δ S _ hr hs (wp.bind h fun d S1 _ x H1 β F1 r1 q1 v1 h1 => ?_)
  have e : x = d := v1
  subst e
  cases x with
  | true => exact sa (α ++ β) F1 σ H1 δ S1 Q r1 (hs.mono q1.sub) h1
  | false => exact sb (α ++ β) F1 σ H1 δ S1 Q r1 (hs.mono q1.sub) h1
theorem pd_one {op : BoolOp} (ha : PD X W a ra) : PD X W (.BoolOp op [a] pos) ra := let ⟨t, h, s⟩ := ha.ex; ⟨t, pe_one h, s⟩
theorem pd_and (ha : PD X W a ra) (hb : PD X W (.BoolOp .And (b :: rest) pos) rb) : PD X W (.BoolOp .And (a :: b :: rest) pos) (rAnd ra rb) := by
  obtain ⟨ta, pa, sa⟩ := ha.ex
  obtain ⟨tb, pb, sb⟩ := hb.ex
  refine ⟨_, pe_andT pa pb, fun α F σ H δ S Q hr hs h => ?_⟩
  refine sa α F σ H δ S _ hr hs (wp.bind h fun d S1 _ x H1 β F1 r1 q1 v1 h1 => ?_)
  cases e : truth S1 d with
  | none => rw [e] at h1; exact h1.elim
  | some k =>
    rw [e] at h1
    refine ⟨k, r1.truV v1 e, ?_⟩
    cases k with
    | false => exact h1.now r1 v1
    | true => exact sb (α ++ β) F1 σ H1 δ S1 Q r1 (hs.mono q1.sub) h1
theorem pd_not (ha : PD X W a ra) : PD X W (.UnaryOp .Not a pos) (rNot ra) := by
  obtain ⟨ta, pa, sa⟩ := ha.ex
  refine ⟨_, pe_notT pa, fun α F σ H δ S Q hr hs h => ?_⟩
  refine sa α F σ H δ S _ hr hs (wp.bind h fun d S1 _ x H1 β F1 r1 q1 v1 h1 => ?_)
  cases e : truth S1 d with
  | none => rw [e] at h1; exact h1.elim
  | some k =>
    rw [e] at h1
    exact ⟨k, r1.truV v1 e, h1.now r1 (.bl _)⟩
end
end DL
set_option Elab.async false
set_option linter.all false
set_option maxRecDepth 100000
set_option maxHeartbeats 4000000
set_option autoImplicit false
/-! Data layer, fifth part: targets, statements, loops, comprehensions, defs. -/
namespace DL
open PySem PySem.Spec PyProof.Rows L2
def relS (wd : World) (K : Fg) (mg : Str → Option Value) : RelT L2.St Sl := fun F α σ δ => Slots wd K mg F α σ δ
def SndG (wd : World) (K : Fg) (mg : Str → Option Value) (W : WX) (t : TG) (g : RG) : Prop := ∀ α F σ H δ S v d (Q : L2.St → Hp → Prop), Rel wd K mg α F H S → Slots wd K mg F α σ δ → DV wd K mg F α v d → wp wd K mg α F H (relS wd K mg) (g d δ S) Q (fun c d H' => W c d σ H') → t v σ H Q
structure PGd (X : Cx) (W : WX) (tg : Expr) (g : RG) : Prop where
  ex : ∃ t, PG X tg t ∧ SndG X.w X.K X.mg W t g
/-- .. that raises nothing -/
structure PGn (X : Cx) (W : WX) (tg : Expr) (g : RG) : Prop where
  pg : PGd X W tg g
  ne : ∀ d δ S c fs S', g d δ S ≠ .err c fs S'
def wpS (wd : World) (K : Fg) (mg : Str → Option Value) (α : List Addr) (F H : Hp) (o : Out) (E : Ends) (W : WX) : Prop := match o with
  | .nx δ S => ∀ σ' H' β F', Rel wd K mg (α ++ β) F' H' S → Stp α F H β F' H' → Slots wd K mg F' (α ++ β) σ' δ → E.nx σ' H'
  | .rt d S => ∀ v H' β F', Rel wd K mg (α ++ β) F' H' S → Stp α F H β F' H' → DV wd K mg F' (α ++ β) v d → E.rt v H'
  | .bk δ S => ∀ σ' H' β F', Rel wd K mg (α ++ β) F' H' S → Stp α F H β F' H' → Slots wd K mg F' (α ++ β) σ' δ → E.bk σ' H'
  | .ct δ S => ∀ σ' H' β F', Rel wd K mg (α ++ β) F' H' S → Stp α F H β F' H' → Slots wd K mg F' (α ++ β) σ' δ → E.ct σ' H'
  | .err c fs δ S => ∀ cls dd σ' H' β F', Rel wd K mg (α ++ β) F' H' S → Stp α F H β F' H' → Slots wd K mg F' (α ++ β) σ' δ → ErrAt wd K mg F' (α ++ β) c fs cls dd H' → W cls dd σ' H'
  | .stuck => False
def SndS (wd : World) (K : Fg) (mg : Str → Option Value) (W : WX) (t : TS) (r : RS) : Prop := ∀ α F σ H δ S (E : Ends), Rel wd K mg α F H S → Slots wd K mg F α σ δ → wpS wd K mg α F H (r δ S) E W → t E σ H
structure PSd (X : Cx) (W : WX) (st : Stmt) (r : RS) : Prop where
  ex : ∃ t, PS X st t ∧ SndS X.w X.K X.mg W t r
structure PSds (X : Cx) (W : WX) (st : List Stmt) (r : RS) : Prop where
  ex : ∃ t, PSs X st t ∧ SndS X.w X.K X.mg W t r
section
variable {X : Cx} {W : WX} {a b c e : Expr} {es rest : List Expr} {ra rb rc : RE} {ba bb : RB} {rs : RA} {pos p : Pos} {wd : World} {K : Fg} {mg : Str → Option Value} {α β : List Addr} {F F1 H H1 : Hp} {S : Sto}
theorem wpS.step {o : Out} {E : Ends} (st : Stp α F H β F1 H1) (h : wpS wd K mg α F H o E W) : wpS wd K mg (α ++ β) F1 H1 o E W := by
  cases o with
  | nx δ S => intro σ' H' γ F' hr hs hv; rw [List.append_assoc] at hr hv; exact h σ' H' (β ++ γ) F' hr (st.trans hs) hv
  | rt d S => intro σ' H' γ F' hr hs hv; rw [List.append_assoc] at hr hv; exact h σ' H' (β ++ γ) F' hr (st.trans hs) hv
  | bk δ S => intro σ' H' γ F' hr hs hv; rw [List.append_assoc] at hr hv; exact h σ' H' (β ++ γ) F' hr (st.trans hs) hv
  | ct δ S => intro σ' H' γ F' hr hs hv; rw [List.append_assoc] at hr hv; exact h σ' H' (β ++ γ) F' hr (st.trans hs) hv
  | err c fs δ S => intro cls dd σ' H' γ F' hr hs hv q; rw [List.append_assoc] at hr hv q; exact h cls dd σ' H' (β ++ γ) F' hr (st.trans hs) hv q
  | stuck => exact h
theorem wpS.out {A B : Type} {rel : RelT B A} {r : Res A} {δ : Sl} {f : A → Sto → Out} {E : Ends} {Q : B → Hp → Prop} {σ : L2.St} (h : wpS wd K mg α F H (r.out δ f) E W) (hs : Slots wd K mg F α σ δ)
    (k : ∀ a S1, r = .ok a S1 → ∀ x H1 β F1, Rel wd K mg (α ++ β) F1 H1 S1 → Stp α F H β F1 H1 → rel F1 (α ++ β) x a → wpS wd K mg (α ++ β) F1 H1 (f a S1) E W → Q x H1) : wp wd K mg α F H rel r Q (fun c d H' => W c d σ H') := by
  cases r with
  | ok a S' => exact fun b H' β F' hr st hv => k a S' rfl b H' β F' hr st hv (wpS.step st h)
  | err c fs S' => exact fun cls dd H' β F' hr st q => h cls dd σ H' β F' hr st (hs.mono st.sub) q
  | stuck => exact h
theorem wpS.nx {δ : Sl} {E : Ends} {σ : L2.St} (h : wpS wd K mg α F H (.nx δ S) E W) (hr : Rel wd K mg α F H S) (hs : Slots wd K mg F α σ δ) : E.nx σ H := by
  have e : α ++ [] = α := List.append_nil α
  exact h σ H [] F (by rw [e]; exact hr) Stp.refl (by rw [e]; exact hs)
theorem wpS.rt {d : D} {E : Ends} {v : V} (h : wpS wd K mg α F H (.rt d S) E W) (hr : Rel wd K mg α F H S) (hv : DV wd K mg F α v d) : E.rt v H := by
  have e : α ++ [] = α := List.append_nil α
  exact h v H [] F (by rw [e]; exact hr) Stp.refl (by rw [e]; exact hv)
theorem wpS.bk {δ : Sl} {E : Ends} {σ : L2.St} (h : wpS wd K mg α F H (.bk δ S) E W) (hr : Rel wd K mg α F H S) (hs : Slots wd K mg F α σ δ) : E.bk σ H := by
  have e : α ++ [] = α := List.append_nil α
  exact h σ H [] F (by rw [e]; exact hr) Stp.refl (by rw [e]; exact hs)
theorem wpS.ct {δ : Sl} {E : Ends} {σ : L2.St} (h : wpS wd K mg α F H (.ct δ S) E W) (hr : Rel wd K mg α F H S) (hs : Slots wd K mg F α σ δ) : E.ct σ H := by
  have e : α ++ [] = α := List.append_nil α
  exact h σ H [] F (by rw [e]; exact hr) Stp.refl (by rw [e]; exact hs)
/-! ### targets -/
theorem pgd_name (i : Nat) {x : Str} (hN : X.N.Nodup) (hi : X.N[i]? = some x := by rfl) (hx : Loc X.env.scope x := by first | exact Or.inl rfl | exact Or.inr rfl) (hf : X.fn x = true ∨ X.env.scope.names.lookup x = some .local := by first | exact .inl rfl | exact .inr rfl | assumption) : PGn X W (.Name x pos) (gName i) := by
  refine ⟨⟨_, pg_name hN hi hx hf, fun α F σ H δ S v d Q hr hs hv h => ?_⟩, fun d δ S c fs S' h => by unfold gName at h; split at h <;> cases h⟩
  unfold gName at h
  split at h
  · exact h.now hr (hs.set hv)
  · exact h.elim
/-! ### statements -/
theorem psds_nil : PSds X W [] sNext := ⟨_, pss_nil, fun α F σ H δ S E hr hs h => h.nx hr hs⟩
theorem psds_cons {st : Stmt} {sts : List Stmt} {r u : RS} (h1 : PSd X W st r) (h2 : PSds X W sts u) : PSds X W (st :: sts) (sSeq r u) := by
  obtain ⟨t, p1, s1⟩ := h1.ex
  obtain ⟨t', p2, s2⟩ := h2.ex
  refine ⟨_, pss_cons p1 p2, fun α F σ H δ S E hr hs h => ?_⟩
  refine s1 α F σ H δ S _ hr hs ?_
  unfold sSeq at h
  cases q : r δ S with
  | nx δ1 S1 =>
    rw [q] at h
    exact fun σ' H' β F' r1 q1 hs1 => s2 (α ++ β) F' σ' H' δ1 S1 E r1 hs1 (wpS.step q1 h)
  | rt d S1 => rw [q] at h; exact h
  | bk δ S1 => rw [q] at h; exact h
  | ct δ S1 => rw [q] at h; exact h
  | err c fs δ S1 => rw [q] at h; exact h
  | stuck => rw [q] at h; exact h
theorem psds_one {st : Stmt} {r : RS} (h1 : PSd X W st r) : PSds X W [st] r := let ⟨t, p, s⟩ := h1.ex; ⟨t, pss_one p, s⟩
theorem psd_never {st : Stmt} : PSd X W st sNever := ⟨_, ps_never, fun α F σ H δ S E hr hs h => h⟩
theorem psd_expr (ha : PD X W e ra) (hsw : swapsWith e none pos.line X.env = pure false := by rfl) : PSd X W (.Expr e pos) (sExpr ra) := by
  obtain ⟨t, p1, s1⟩ := ha.ex
  refine ⟨_, ps_expr p1 hsw, fun α F σ H δ S E hr hs h => ?_⟩
  exact s1 α F σ H δ S _ hr hs (wpS.out h hs fun d S1 _ x H1 β F1 r1 q1 v1 h1 => h1.nx r1 (hs.mono q1.sub))
theorem psd_ret (ha : PD X W e ra) : PSd X W (.Return (some e) pos) (sRet ra) := by
  obtain ⟨t, p1, s1⟩ := ha.ex
  refine ⟨_, ps_ret p1, fun α F σ H δ S E hr hs h => ?_⟩
  exact s1 α F σ H δ S _ hr hs (wpS.out h hs fun d S1 _ x H1 β F1 r1 q1 v1 h1 => h1.rt r1 v1)
theorem psd_if {p q : List Stmt} {t u : RS} (hc : PB X W c ba) (ha : PSds X W p t) (hb : PSds X W q u) : PSd X W (.If c p q pos) (sIf ba t u) := by
  obtain ⟨tc, p0, s0⟩ := hc.ex
  obtain ⟨t', p1, s1⟩ := ha.ex
  obtain ⟨u', p2, s2⟩ := hb.ex
  refine ⟨_, ps_if p0 p1 p2, fun α F σ H δ S E hr hs h => ?_⟩
  refine s0 α F σ H δ S _ hr hs (wpS.out h hs fun d S1 _ x H1 β F1 r1 q1 v1 h1 => ?_)
  have e : x = d := v1
  subst e
  cases x with
  | true => exact s1 (α ++ β) F1 σ H1 δ S1 E r1 (hs.mono q1.sub) h1
  | false => exact s2 (α ++ β) F1 σ H1 δ S1 E r1 (hs.mono q1.sub) h1
theorem psd_asg {tg : Expr} {g : RG} (he : PD X W e ra) (hg : PGd X W tg g) (hsw : swapsWithSole [tg] e pos.line X.env = pure false := by rfl) (hw : swappedStores [tg] e X.env = pure none := by rfl) (h1 : (assignEach [tg] X.env).map (·.2) = [assign tg X.env] := by rfl) : PSd X W (.Assign [tg] e pos) (sAsg ra g) := by
  obtain ⟨t, p1, s1⟩ := he.ex
  obtain ⟨tg', p2, s2⟩ := hg.ex
  refine ⟨_, ps_asg p1 p2 hsw hw h1, fun α F σ H δ S E hr hs h => ?_⟩
  refine s1 α F σ H δ S _ hr hs (wpS.out h hs fun d S1 _ x H1 β F1 r1 q1 v1 h1 => ?_)
  refine s2 (α ++ β) F1 σ H1 δ S1 x d _ r1 (hs.mono q1.sub) v1 (wpS.out h1 (hs.mono q1.sub) fun δ1 S2 _ σ1 H2 γ F2 r2 q2 v2 h2 => ?_)
  exact h2.nx r2 v2
/-! ### loops -/
/-- J walks ds, whatever else is laid -/
structure ItOk (wd : World) (K : Fg) (mg : Str → Option Value) (F : Hp) (α : List Addr) (J : It) (ds : List D) : Prop where
  go : ∀ (F' H' : Hp) (i : Nat), Sub F F' → Sub F' H' → i < ds.length → J.go i H'
  stop : ∀ (F' H' : Hp), Sub F F' → Sub F' H' → J.stop ds.length H'
  yld : ∀ (F' H' H2 : Hp) (i : Nat) (x : V) (d : D), Sub F F' → Sub F' H' → ds[i]? = some d → J.yld i H' x H2 → (H2 = H' ∧ DV wd K mg F' α x d) ∨ ∃ T o, H' T = none ∧ H2 = upd H' T o ∧ DV wd K mg (upd F' T o) α x d
theorem ItOk.mono {J : It} {ds : List D} (h : ItOk wd K mg F α J ds) (s : Sub F F1) : ItOk wd K mg F1 (α ++ β) J ds where
  go := fun F' H' i a b => h.go F' H' i (s.trans a) b
  stop := fun F' H' a b => h.stop F' H' (s.trans a) b
  yld := fun F' H' H2 i x d a b c q => (h.yld F' H' H2 i x d (s.trans a) b c q).imp (fun ⟨z, y⟩ => ⟨z, y.mono (Sub.refl _)⟩) fun ⟨T, o, z1, z2, y⟩ => ⟨T, o, z1, z2, y.mono (Sub.refl _)⟩
def relI (wd : World) (K : Fg) (mg : Str → Option Value) : RelT It (List D) := fun F α J ds => ItOk wd K mg F α J ds
def SndI (wd : World) (K : Fg) (mg : Str → Option Value) (W : WX) (t : TI) (r : RA) : Prop := ∀ α F σ H δ S (Q : It → Hp → Prop), Rel wd K mg α F H S → Slots wd K mg F α σ δ → wp wd K mg α F H (relI wd K mg) (r δ S) Q (fun c d H' => W c d σ H') → t σ H Q
structure PId (X : Cx) (W : WX) (tg iter : Expr) (r : RA) : Prop where
  ex : ∃ t, PI X tg iter t ∧ SndI X.w X.K X.mg W t r
/-- the item that came -/
theorem ItOk.came {J : It} {ds : List D} {H2 : Hp} {i : Nat} {x : V} {d : D} (h : ItOk wd K mg F α J ds) (hr : Rel wd K mg α F H S) (hd : ds[i]? = some d) (q : J.yld i H x H2) :
    ∃ F2, Rel wd K mg (α ++ []) F2 H2 S ∧ Stp α F H [] F2 H2 ∧ DV wd K mg F2 (α ++ []) x d := by
  rcases h.yld F H H2 i x d (Sub.refl F) hr.sub hd q with ⟨e, v⟩ | ⟨T, o, e1, e2, v⟩
  · subst e
    refine ⟨F, ?_, Stp.refl, v.mono (Sub.refl F)⟩
    rw [List.append_nil]; exact hr
  · subst e2
    obtain ⟨a1, a2⟩ := hr.newF (o := o) e1
    exact ⟨_, a1, a2, v.mono (Sub.refl _)⟩
theorem drop_cons {A : Type} {l : List A} {i : Nat} {d : A} (h : l[i]? = some d) : l.drop i = d :: l.drop (i + 1) := by
  obtain ⟨hi, e⟩ := List.getElem?_eq_some_iff.mp h
  rw [List.drop_eq_getElem_cons hi, e]
theorem psd_for {tg iter : Expr} {body : List Stmt} {ri : RA} {g : RG} {r : RS} (hp : PassesOwn (model X.prog X.w) X.A X.env X.xe) (hc : X.calm = true) (hi : PId X W tg iter ri) (hg : PGd X W tg g) (hb : PSds X W body r) (hsx : ∀ x, foldedSetIterable iter X.env x = pure x := by intro _; rfl) : PSd X W (.For tg iter body [] pos) (sFor ri g r) := by
  obtain ⟨ti, p1, s1⟩ := hi.ex
  obtain ⟨tg', p2, s2⟩ := hg.ex
  obtain ⟨tb, p3, s3⟩ := hb.ex
  refine ⟨_, ps_for hp hc p1 p2 p3 hsx, fun α F σ H δ S E hr hs h => ?_⟩
  refine s1 α F σ H δ S _ hr hs (wpS.out h hs fun ds S1 _ J H1 β F1 r1 q1 v1 h1 => ?_)
  have v1 : ItOk X.w X.K X.mg F1 (α ++ β) J ds := v1
  refine ⟨fun i m σ' H' => i + m = ds.length ∧ ∃ γ F' δ' S', Rel X.w X.K X.mg (α ++ β ++ γ) F' H' S' ∧ Sub F1 F' ∧ Slots X.w X.K X.mg F' (α ++ β ++ γ) σ' δ' ∧ wpS X.w X.K X.mg (α ++ β ++ γ) F' H' (forL g r (ds.drop i) δ' S') E W, ⟨ds.length, by omega, [], F1, δ, S1, ?_⟩, fun i m σ' H' ⟨hm, γ, F', δ', S', r2, sb, hs2, h2⟩ => ?_⟩
  · rw [List.append_nil]
    exact ⟨r1, Sub.refl _, hs.mono q1.sub, h1⟩
  · have v2 : ItOk X.w X.K X.mg F' (α ++ β ++ γ) J ds := v1.mono sb
    by_cases hlt : i < ds.length
    · obtain ⟨d, hd⟩ : ∃ d, ds[i]? = some d := ⟨_, List.getElem?_eq_getElem hlt⟩
      refine .inr ⟨v2.go F' H' i (Sub.refl _) r2.sub hlt, fun σ2 H2 => ∃ γ F' δ' S', Rel X.w X.K X.mg (α ++ β ++ γ) F' H2 S' ∧ Sub F1 F' ∧ Slots X.w X.K X.mg F' (α ++ β ++ γ) σ2 δ' ∧ wpS X.w X.K X.mg (α ++ β ++ γ) F' H2 (forL g r (ds.drop (i + 1)) δ' S') E W, fun σ2 H2 z => ⟨m - 1, by omega, by omega, z⟩, fun x H2 hy => ?_⟩
      obtain ⟨F2, r3, q3, v3⟩ := v2.came r2 hd hy
      rw [drop_cons hd] at h2
      have h3 := wpS.step q3 h2
      refine s2 (α ++ β ++ γ ++ []) F2 σ' H2 δ' S' x d _ r3 (hs2.mono q3.sub) v3 (wpS.out h3 (hs2.mono q3.sub) fun δ1 S2 _ σ1 H3 ε F3 r4 q4 v4 h4 => ?_)
      refine s3 (α ++ β ++ γ ++ [] ++ ε) F3 σ1 H3 δ1 S2 _ r4 v4 ?_
      have sb3 : Sub F1 F3 := (sb.trans q3.sub).trans q4.sub
      have ass : ∀ ζ : List Addr, α ++ β ++ γ ++ [] ++ ε ++ ζ = α ++ β ++ (γ ++ ε ++ ζ) := fun ζ => by simp [List.append_assoc]
      cases q : r δ1 S2 with
      | nx δ2 S3 =>
        rw [q] at h4
        intro σ4 H4 ζ F4 r5 q5 v5
        have h5 := wpS.step q5 h4
        rw [ass] at r5 v5 h5
        exact ⟨_, F4, δ2, S3, r5, sb3.trans q5.sub, v5, h5⟩
      | ct δ2 S3 =>
        rw [q] at h4
        intro σ4 H4 ζ F4 r5 q5 v5
        have h5 := wpS.step q5 h4
        rw [ass] at r5 v5 h5
        exact ⟨_, F4, δ2, S3, r5, sb3.trans q5.sub, v5, h5⟩
      | bk δ2 S3 => rw [q] at h4; exact h4
      | rt d S3 => rw [q] at h4; exact h4
      | err c fs δ2 S3 => rw [q] at h4; exact h4
      | stuck => rw [q] at h4; exact h4
    · have e : i = ds.length := by omega
      subst e
      refine .inl ⟨v2.stop F' H' (Sub.refl _) r2.sub, ?_⟩
      rw [List.drop_length] at h2
      exact wpS.nx h2 r2 hs2
theorem psd_while {c : Expr} {body : List Stmt} {r : RS} (fuel : Sl → Sto → Nat) (hp : PassesOwn (model X.prog X.w) X.A X.env X.xe) (hcd : PB X W c ba) (hb : PSds X W body r) : PSd X W (.While c body [] pos) (sWhile fuel ba r) := by
  obtain ⟨tc, p1, s1⟩ := hcd.ex
  obtain ⟨tb, p3, s3⟩ := hb.ex
  refine ⟨_, ps_while hp p1 p3, fun α F σ H δ S E hr hs h => ?_⟩
  refine ⟨fun m σ' H' => ∃ γ F' δ' S', Rel X.w X.K X.mg (α ++ γ) F' H' S' ∧ Slots X.w X.K X.mg F' (α ++ γ) σ' δ' ∧ wpS X.w X.K X.mg (α ++ γ) F' H' (whileL ba r m δ' S') E W, ⟨fuel δ S, [], F, δ, S, ?_⟩, fun m σ' H' ⟨γ, F', δ', S', r2, hs2, h2⟩ => ?_⟩
  · rw [List.append_nil]
    exact ⟨hr, hs, h⟩
  · cases m with
    | zero => exact h2.elim
    | succ m =>
      refine s1 (α ++ γ) F' σ' H' δ' S' _ r2 hs2 (wpS.out h2 hs2 fun k S2 _ x H3 ε F3 r4 q4 v4 h4 => ?_)
      have e : x = k := v4
      subst e
      cases x with
      | false => exact wpS.nx h4 r4 (hs2.mono q4.sub)
      | true =>
        refine ⟨fun σ2 H2 => ∃ γ F' δ' S', Rel X.w X.K X.mg (α ++ γ) F' H2 S' ∧ Slots X.w X.K X.mg F' (α ++ γ) σ2 δ' ∧ wpS X.w X.K X.mg (α ++ γ) F' H2 (whileL ba r m δ' S') E W, fun σ2 H2 z => ⟨m, Nat.lt_succ_self m, z⟩, ?_⟩
        refine s3 (α ++ γ ++ ε) F3 σ' H3 δ' S2 _ r4 (hs2.mono q4.sub) ?_
        have ass : ∀ ζ : List Addr, α ++ γ ++ ε ++ ζ = α ++ (γ ++ ε ++ ζ) := fun ζ => by simp [List.append_assoc]
        rw [if_pos rfl] at h4
        cases q : r δ' S2 with
        | nx δ2 S3 =>
          rw [q] at h4
          intro σ4 H4 ζ F4 r5 q5 v5
          have h5 := wpS.step q5 h4
          rw [ass] at r5 v5 h5
          exact ⟨_, F4, δ2, S3, r5, v5, h5⟩
        | ct δ2 S3 =>
          rw [q] at h4
          intro σ4 H4 ζ F4 r5 q5 v5
          have h5 := wpS.step q5 h4
          rw [ass] at r5 v5 h5
          exact ⟨_, F4, δ2, S3, r5, v5, h5⟩
        | bk δ2 S3 => rw [q] at h4; exact h4
        | rt d S3 => rw [q] at h4; exact h4
        | err c fs δ2 S3 => rw [q] at h4; exact h4
        | stuck => rw [q] at h4; exact h4
end
end DL
set_option Elab.async false
set_option linter.all false
set_option maxRecDepth 100000
set_option maxHeartbeats 4000000
set_option autoImplicit false
/-! Data layer, sixth part: list comprehensions, defs. -/
namespace DL
open PySem PySem.Spec PyProof.Rows L2
abbrev W0 : WX := fun _ _ _ _ => False
section
variable {X : Cx} {W : WX} {a b c e : Expr} {es rest : List Expr} {ra rb rc : RE} {ba bb : RB} {rs : RA} {pos p : Pos} {wd : World} {K : Fg} {mg : Str → Option Value} {α β : List Addr} {F F1 H H1 : Hp} {S : Sto}
/-- an expression's reading by its mirror alone -/
def tCanE (wd : World) (K : Fg) (mg : Str → Option Value) (W : WX) (r : RE) : TE := fun σ H Q => ∃ α F δ S, Rel wd K mg α F H S ∧ Slots wd K mg F α σ δ ∧ wp wd K mg α F H (relD wd K mg) (r δ S) Q (fun c d H' => W c d σ H')
def tCanB (wd : World) (K : Fg) (mg : Str → Option Value) (W : WX) (r : RB) : TT := fun σ H Q => ∃ α F δ S, Rel wd K mg α F H S ∧ Slots wd K mg F α σ δ ∧ wp wd K mg α F H relB (r δ S) Q (fun c d H' => W c d σ H')
theorem PD.can (h : PD X W a ra) : PE X a (tCanE X.w X.K X.mg W ra) := by
  obtain ⟨t, p, s⟩ := h.ex
  exact ⟨fun pins sh σ H Q I ⟨α, F, δ, S, h1, h2, h3⟩ => p.run pins sh σ H Q I (s α F σ H δ S Q h1 h2 h3)⟩
theorem PB.can (h : PB X W a ba) : PT X a (tCanB X.w X.K X.mg W ba) := by
  obtain ⟨t, p, s⟩ := h.ex
  exact ⟨fun pins sh σ H Q I ⟨α, F, δ, S, h1, h2, h3⟩ => p.run pins sh σ H Q I (s α F σ H δ S Q h1 h2 h3)⟩
/-! ### a comprehension's own targets -/
theorem wipe_set {σ : L2.St} {i : Nat} {x : Option V} : ∀ {vs : List Nat}, wipe (σ.set i x) vs = if i ∈ vs then wipe σ vs else (wipe σ vs).set i x
  | [] => rfl
  | v :: vs => by
    unfold wipe
    rw [wipe_set]
    by_cases h : i ∈ vs
    · rw [if_pos h, if_pos (List.mem_cons_of_mem _ h)]
    · rw [if_neg h]
      by_cases z : i = v
      · subst z
        rw [if_pos List.mem_cons_self, List.set_set]
      · rw [if_neg (by intro q; rcases List.mem_cons.mp q with q | q; exact z q; exact h q)]
        exact List.set_comm _ _ z
structure PGx (X : Cx) (vs : List Nat) (tg : Expr) (t : TG) (g : RG) : Prop where
  pg : PG X tg t
  snd : ∀ α F σ H δ S v d (Q : L2.St → Hp → Prop), Rel X.w X.K X.mg α F H S → Slots X.w X.K X.mg F α σ δ → DV X.w X.K X.mg F α v d → wp X.w X.K X.mg α F H (fun F α σ' δ' => Slots X.w X.K X.mg F α σ' δ' ∧ wipe σ' vs = wipe σ vs) (g d δ S) Q (fun _ _ _ => False) → t v σ H Q
  ne : ∀ d δ S c fs S', g d δ S ≠ .err c fs S'
structure PGxs (X : Cx) (vs : List Nat) (tg : List Expr) (t : TGs) (g : List D → Sl → Sto → Res Sl) : Prop where
  pg : PGs X tg t
  snd : ∀ α F σ H δ S v d (Q : L2.St → Hp → Prop), Rel X.w X.K X.mg α F H S → Slots X.w X.K X.mg F α σ δ → DVs X.w X.K X.mg F α v d → wp X.w X.K X.mg α F H (fun F α σ' δ' => Slots X.w X.K X.mg F α σ' δ' ∧ wipe σ' vs = wipe σ vs) (g d δ S) Q (fun _ _ _ => False) → t v σ H Q
  ne : ∀ d δ S c fs S', g d δ S ≠ .err c fs S'
  len : ∀ ds δ S δ' S', g ds δ S = .ok δ' S' → ds.length = tg.length
theorem pgx_name {vs : List Nat} (i : Nat) {x : Str} (hN : X.N.Nodup) (hv : i ∈ vs := by decide) (hi : X.N[i]? = some x := by rfl) (hx : Loc X.env.scope x := by first | exact Or.inl rfl | exact Or.inr rfl) (hf : X.fn x = true ∨ X.env.scope.names.lookup x = some .local := by first | exact .inl rfl | exact .inr rfl | assumption) : PGx X vs (.Name x pos) (L2.gName i) (gName i) := by
  refine ⟨pg_name hN hi hx hf, fun α F σ H δ S v d Q hr hs hd h => ?_, fun d δ S c fs S' h => by unfold gName at h; split at h <;> cases h⟩
  unfold gName at h
  split at h
  · exact h.now hr ⟨hs.set hd, by rw [wipe_set, if_pos hv]⟩
  · exact h.elim
theorem pgxs_nil {vs : List Nat} : PGxs X vs [] L2.gNil gNil := by
  refine ⟨pgs_nil, fun α F σ H δ S v d Q hr hs hv h => ?_, fun d δ S c fs S' h => ?_, fun ds δ S δ' S' h => ?_⟩
  · cases hv with
    | nil => exact ⟨rfl, h.now hr ⟨hs, rfl⟩⟩
    | cons _ _ => exact h.elim
  · cases d <;> cases h
  · cases ds with
    | nil => rfl
    | cons _ _ => cases h
theorem pgxs_cons {vs : List Nat} {t : TG} {t' : TGs} {g : RG} {u : List D → Sl → Sto → Res Sl} (h1 : PGx X vs e t g) (h2 : PGxs X vs es t' u) (hsy : (assignEach (e :: es) X.env).map (·.2) = assign e X.env :: (assignEach es X.env).map (·.2) := by rfl) : PGxs X vs (e :: es) (L2.gCons t t') (gCons g u) := by
  refine ⟨pgs_cons h1.pg h2.pg hsy, fun α F σ H δ S v d Q hr hs hv h => ?_, fun d δ S c fs S' h => ?_, fun ds δ S δ' S' h => ?_⟩
  · cases hv with
    | nil => exact h.elim
    | cons hv ht =>
      rename_i v d vs' ds
      refine ⟨v, vs', rfl, h1.snd α F σ H δ S v d _ hr hs hv (wp.bind h fun δ1 S1 _ σ1 H1 β F1 r1 q1 hs1 q => ?_)⟩
      refine h2.snd (α ++ β) F1 σ1 H1 δ1 S1 vs' ds Q r1 hs1.1 (ht.mono q1.sub) ?_
      rw [hs1.2]
      exact q
  · cases d with
    | nil => cases h
    | cons d r =>
      have h' : (g d δ S).bind (fun δ1 S1 => u r δ1 S1) = .err c fs S' := h
      cases q : g d δ S with
      | ok a S1 => rw [q] at h'; exact h2.ne _ _ _ _ _ _ h'
      | err c fs S1 => exact h1.ne _ _ _ _ _ _ q
      | stuck => rw [q] at h'; cases h'
  · cases ds with
    | nil => cases h
    | cons d r =>
      have h' : (g d δ S).bind (fun δ1 S1 => u r δ1 S1) = .ok δ' S' := h
      cases q : g d δ S with
      | ok a S1 => rw [q] at h'; rw [List.length_cons, List.length_cons, h2.len _ _ _ _ _ h']
      | err c fs S1 => rw [q] at h'; cases h'
      | stuck => rw [q] at h'; cases h'
theorem pgx_tup {vs : List Nat} {k : Nat} {t : TGs} {u : List D → Sl → Sto → Res Sl} (hc : X.calm = true) (h : PGxs X vs es t u) (hn : (assignEach es X.env).length = es.length := by rfl) (hst : (assignEach es X.env).findIdx? (·.1) = none := by rfl) : PGx X vs (.Tuple es k pos) (L2.gTup X.K es.length t) (gTup u) := by
  refine ⟨pg_tup hc h.pg hn hst, fun α F σ H δ S v d Q hr hs hv h0 => ?_, fun d δ S c fs S' h0 => ?_⟩
  · unfold gTup at h0
    cases q : deref S d with
    | tup ds =>
      rw [q] at h0
      dsimp only at h0
      obtain ⟨a, xs, e1, e2, e3⟩ := hr.viewT hv q
      have len : ds.length = es.length := by
        cases q2 : u ds δ S with
        | ok δ' S' => exact h.len _ _ _ _ _ q2
        | err c fs S' => exact absurd q2 (h.ne _ _ _ _ _ _)
        | stuck => rw [q2] at h0; exact h0.elim
      exact ⟨a, xs, e1, e2, by rw [e3.length]; exact len, h.snd α F σ H δ S xs ds Q hr hs e3 h0⟩
    | tux ds =>
      rw [q] at h0
      dsimp only at h0
      obtain ⟨a, xs, e1, e2, e3⟩ := hr.viewX hv q
      have len : ds.length = es.length := by
        cases q2 : u ds δ S with
        | ok δ' S' => exact h.len _ _ _ _ _ q2
        | err c fs S' => exact absurd q2 (h.ne _ _ _ _ _ _)
        | stuck => rw [q2] at h0; exact h0.elim
      exact ⟨a, xs, e1, e2, by rw [e3.length]; exact len, h.snd α F σ H δ S xs ds Q hr hs e3 h0⟩
    | _ => rw [q] at h0; exact h0.elim
  · unfold gTup at h0
    cases q : deref S d with
    | tup ds => rw [q] at h0; exact h.ne _ _ _ _ _ _ h0
    | tux ds => rw [q] at h0; exact h.ne _ _ _ _ _ _ h0
    | _ => rw [q] at h0; cases h0
theorem Slots.wipe {σ : L2.St} {δ : Sl} (h : Slots wd K mg F α σ δ) : ∀ vs : List Nat, Slots wd K mg F α (L2.wipe σ vs) (wipeD δ vs)
  | [] => h
  | v :: vs => by
    have ih := Slots.wipe h vs
    refine ⟨by show ((L2.wipe σ vs).set v none).length = ((wipeD δ vs).set v none).length; rw [List.length_set, List.length_set]; exact ih.1, fun j d e => ?_⟩
    have e' : ((wipeD δ vs).set v none)[j]? = some (some d) := e
    show ∃ w, ((L2.wipe σ vs).set v none)[j]? = some (some w) ∧ _
    by_cases z : v = j
    · subst z
      have hl : v < (wipeD δ vs).length := by
        have := (List.getElem?_eq_some_iff.mp e').1
        rw [List.length_set] at this; exact this
      rw [List.getElem?_set_self hl] at e'
      cases e'
    · rw [List.getElem?_set_ne z] at e' ⊢
      exact ih.2 j d e'
/-- what walks a comprehension: read within its block -/
structure PLc (X : Cx) (vs : List Nat) (scope : Scope) (tg elt : Expr) (ifs : List Expr) (t : TG) (tt : TT) (g : RG) (rt : RB) (re : RE) : Prop where
  g : ∀ (s : Shared) (H : Hp) (C : Addr) (cl : List (Str × Addr)) (fp : List Addr), PGx (X.blk s H scope (compEnvC scope cl C X.env) fp) vs tg t g
  t : ∀ (s : Shared) (H : Hp) (C : Addr) (cl : List (Str × Addr)) (fp : List Addr), PTs (X.blk s H scope (compEnvC scope cl C X.env) fp) ifs tt
  ts : ∀ α F σ H δ S (Q : Bool → Hp → Prop), Rel X.w X.K X.mg α F H S → Slots X.w X.K X.mg F α σ δ → wp X.w X.K X.mg α F H relB (rt δ S) Q (fun _ _ _ => False) → tt σ H Q
  e : ∀ (s : Shared) (H : Hp) (C : Addr) (cl : List (Str × Addr)) (fp : List Addr), PD (X.blk s H scope (compEnvC scope cl C X.env) fp) W0 elt re
theorem plc_no {vs : List Nat} {scope : Scope} {tg elt : Expr} {t : TG} {g : RG} {re : RE} (hg : ∀ (s : Shared) (H : Hp) (C : Addr) (cl : List (Str × Addr)) (fp : List Addr), PGx (X.blk s H scope (compEnvC scope cl C X.env) fp) vs tg t g)
    (he : ∀ (s : Shared) (H : Hp) (C : Addr) (cl : List (Str × Addr)) (fp : List Addr), PD (X.blk s H scope (compEnvC scope cl C X.env) fp) W0 elt re) : PLc X vs scope tg elt [] t tYes g bYes re :=
  ⟨hg, fun _ _ _ _ _ => pts_nil, fun α F σ H δ S Q hr _ h => wp.now (b := true) h hr rfl, he⟩
theorem plc_if {vs : List Nat} {scope : Scope} {tg elt c : Expr} {t : TG} {g : RG} {bc : RB} {re : RE} (hg : ∀ (s : Shared) (H : Hp) (C : Addr) (cl : List (Str × Addr)) (fp : List Addr), PGx (X.blk s H scope (compEnvC scope cl C X.env) fp) vs tg t g)
    (hc : ∀ (s : Shared) (H : Hp) (C : Addr) (cl : List (Str × Addr)) (fp : List Addr), PB (X.blk s H scope (compEnvC scope cl C X.env) fp) W0 c bc) (he : ∀ (s : Shared) (H : Hp) (C : Addr) (cl : List (Str × Addr)) (fp : List Addr), PD (X.blk s H scope (compEnvC scope cl C X.env) fp) W0 elt re) :
    PLc X vs scope tg elt [c] t (tCanB X.w X.K X.mg W0 bc) g bc re :=
  ⟨hg, fun s H C cl fp => pts_one (hc s H C cl fp).can, fun α F σ H δ S Q hr hs h => ⟨α, F, δ, S, hr, hs, h⟩, he⟩
theorem bind_ok {A B : Type} {r : Res A} {f : A → Sto → Res B} {b : B} {S' : Sto} (h : r.bind f = .ok b S') : ∃ a S1, r = .ok a S1 ∧ f a S1 = .ok b S' := by
  cases r with
  | ok a S1 => exact ⟨a, S1, rfl, h⟩
  | err c fs S1 => cases h
  | stuck => cases h
theorem wipe_idem (σ : L2.St) : ∀ vs : List Nat, L2.wipe (L2.wipe σ vs) vs = L2.wipe σ vs
  | [] => rfl
  | v :: vs => by
    show (L2.wipe ((L2.wipe σ vs).set v none) vs).set v none = (L2.wipe σ vs).set v none
    rw [wipe_set, wipe_idem σ vs]
    split
    · rfl
    · rw [List.set_set]
structure Stay (wd : World) (K : Fg) (mg : Str → Option Value) (α : List Addr) (F H : Hp) (ad : Addr) (acc : List V) (accD : List D) (γ : List Addr) (F' H' : Hp) (S' : Sto) : Prop where
  rel : Rel wd K mg (α ++ γ) F' H' S'
  stp : Stp α F H γ F' H'
  nin : ad ∉ α ++ γ
  nF : F' ad = none
  at' : H' ad = some (.lst acc)
  dvs : DVs wd K mg F' (α ++ γ) acc accD
theorem Stay.step {ad : Addr} {acc : List V} {accD : List D} {γ ε : List Addr} {F' H' F2 H2 : Hp} {S' S2 : Sto} (st : Stay wd K mg α F H ad acc accD γ F' H' S') (r : Rel wd K mg (α ++ γ ++ ε) F2 H2 S2) (q : Stp (α ++ γ) F' H' ε F2 H2) : Stay wd K mg α F H ad acc accD (γ ++ ε) F2 H2 S2 := by
  have hn : H' ad ≠ none := by rw [st.at']; exact fun z => nomatch z
  refine ⟨by rw [← List.append_assoc]; exact r, st.stp.trans q, ?_, q.fnew ad st.nin st.nF hn, q.frame ad _ st.nin st.at', by rw [← List.append_assoc]; exact st.dvs.mono q.sub⟩
  rw [← List.append_assoc]
  intro z
  rcases List.mem_append.mp z with z | z
  · exact st.nin z
  · exact hn (q.new ad z)
/-- the loop of a comprehension -/
theorem lc_all {scope : Scope} {vs : List Nat} {tg elt : Expr} {ifs : List Expr} {t : TG} {tt : TT} {g : RG} {rt : RB} {re : RE} (L : PLc X vs scope tg elt ifs t tt g rt re) {σ : L2.St} {δ : Sl} {S1 S2 : Sto} {ds zs : List D} {J : It} {ad : Addr} {Qd : Hp → Prop}
    (hr : Rel X.w X.K X.mg α F H S1) (hs : Slots X.w X.K X.mg F α σ δ) (hJ : ItOk X.w X.K X.mg F α J ds) (hD : H ad = none) (hz : lcL g rt re ds (wipeD δ vs) S1 = .ok zs S2) (hl : zs.length ≤ sizeLine)
    (hq : ∀ H' β F', Rel X.w X.K X.mg (α ++ β) F' H' S2 → Stp α F H β F' H' → ad ∉ α ++ β → F' ad = none → Own X.w X.K X.mg F' (α ++ β) H' ad (.lst zs) → Qd H') :
    ∃ Wl : Nat → Nat → Hp → Prop, (∃ m, Wl 0 m (upd H ad (.lst []))) ∧ ∀ i m H, Wl i m H → (J.stop i H ∧ Qd H) ∨ (J.go i H ∧ ∃ Nx : Hp → Prop, (∀ H', Nx H' → ∃ m', m' < m ∧ Wl (i + 1) m' H') ∧ ∀ x H', J.yld i H x H' → t x (L2.wipe σ vs) H' fun σ2 H2 => L2.wipe σ2 vs = L2.wipe σ vs ∧ tt σ2 H2 fun b H3 =>
      if b = true then tCanE X.w X.K X.mg W0 re σ2 H3 fun y H4 => ∃ acc, H4 ad = some (.lst acc) ∧ acc.length < sizeLine ∧ Nx (upd H4 ad (.lst (acc ++ [y]))) else Nx H3) := by
  refine ⟨fun i m H' => i + m = ds.length ∧ ∃ γ F' S' acc accD, Stay X.w X.K X.mg α F H ad acc accD γ F' H' S' ∧
    (lcL g rt re (ds.drop i) (wipeD δ vs) S').bind (fun ys S3 => .ok (accD ++ ys) S3) = .ok zs S2, ⟨ds.length, by omega, [], F, S1, [], [], ?_, ?_⟩, fun i m H' ⟨hm, γ, F', S', acc, accD, st, eq⟩ => ?_⟩
  · have n := hr.notin hD
    have f := hr.notF hD
    refine ⟨?_, Stp.refl.other hD, ?_, f, upd_same, .nil⟩
    · rw [List.append_nil]; exact hr.other n f
    · rw [List.append_nil]; exact n
  · rw [List.drop_zero, hz]
    rfl
  · have v2 : ItOk X.w X.K X.mg F' (α ++ γ) J ds := hJ.mono st.stp.sub
    by_cases hlt : i < ds.length
    · obtain ⟨d, hd⟩ : ∃ d, ds[i]? = some d := ⟨_, List.getElem?_eq_getElem hlt⟩
      refine .inr ⟨v2.go F' H' i (Sub.refl _) st.rel.sub hlt, fun H4 => ∃ γ F' S' acc accD, Stay X.w X.K X.mg α F H ad acc accD γ F' H4 S' ∧
        (lcL g rt re (ds.drop (i + 1)) (wipeD δ vs) S').bind (fun ys S3 => .ok (accD ++ ys) S3) = .ok zs S2, fun H4 z => ⟨m - 1, by omega, by omega, z⟩, fun x H2 hy => ?_⟩
      obtain ⟨F2, r3, q3, v3⟩ := v2.came st.rel hd hy
      have st3 := st.step r3 q3
      rw [drop_cons hd] at eq
      obtain ⟨ys, S3, eq1, eq2⟩ := bind_ok eq
      cases eq2
      unfold lcL at eq1
      obtain ⟨δ1, S4, eg, eq1⟩ := bind_ok eq1
      obtain ⟨k, S5, et, eq1⟩ := bind_ok eq1
      have hs3 : Slots X.w X.K X.mg F2 (α ++ γ ++ []) (L2.wipe σ vs) (wipeD δ vs) := (((hs.mono st.stp.sub).mono q3.sub).wipe vs)
      refine (L.g X.s_0 H 0 [] []).snd (α ++ γ ++ []) F2 (L2.wipe σ vs) H2 (wipeD δ vs) S' x d _ r3 hs3 v3 ?_
      rw [eg]
      intro σ1 H5 ε F5 r5 q5 ⟨hs5, hw⟩
      rw [List.append_assoc α γ []] at q5 r5 hs5
      have st5 := st3.step r5 q5
      refine ⟨hw.trans (wipe_idem σ vs), ?_⟩
      refine L.ts _ F5 σ1 H5 δ1 S4 _ r5 hs5 ?_
      rw [et]
      intro b H6 ζ F6 r6 q6 eb
      have eb : b = k := eb
      subst eb
      rw [List.append_assoc α (γ ++ []) ε] at q6 r6
      have st6 := st5.step r6 q6
      cases b with
      | false =>
        rw [if_neg (by decide)]
        rw [if_neg (by decide)] at eq1
        exact ⟨_, F6, S5, acc, accD, st6, by rw [eq1]; rfl⟩
      | true =>
        rw [if_pos rfl]
        rw [if_pos rfl] at eq1
        obtain ⟨y, S6, ey, eq1⟩ := bind_ok eq1
        obtain ⟨ys', S7, er, eq1⟩ := bind_ok eq1
        cases eq1
        have hs6 := hs5.mono (β := ζ) q6.sub
        rw [List.append_assoc α (γ ++ []) ε] at hs6
        refine ⟨_, F6, δ1, S5, r6, hs6, ?_⟩
        rw [ey]
        intro v H7 η F7 r7 q7 v7
        rw [List.append_assoc α (γ ++ [] ++ ε) ζ] at q7 r7 v7
        have st7 := st6.step r7 q7
        have hlen : acc.length < sizeLine := by
          have e1 := st.dvs.length
          rw [List.length_append, List.length_cons] at hl
          omega
        have v7 : DV X.w X.K X.mg F7 _ v y := v7
        refine ⟨acc, st7.at', hlen, _, F7, S6, acc ++ [v], accD ++ [y], ⟨st7.rel.other st7.nin st7.nF, ?_, st7.nin, st7.nF, upd_same, st7.dvs.append (.cons ?_ .nil)⟩, ?_⟩
        · exact st7.stp.other hD
        · simpa only [List.append_assoc] using v7
        · rw [er]
          show Res.ok (accD ++ [y] ++ ys') _ = _
          rw [List.append_assoc] <;> rfl
    · have e : i = ds.length := by omega
      subst e
      rw [List.drop_length] at eq
      have eq' : Res.ok (accD ++ []) S' = Res.ok zs S2 := eq
      rw [List.append_nil] at eq'
      cases eq'
      exact .inl ⟨v2.stop F' H' (Sub.refl _) st.rel.sub, hq H' γ F' st.rel st.stp st.nin st.nF ⟨acc, st.at', st.dvs⟩⟩
/-- a mirror that came to a list that fits -/
theorem lc_fits {g : RG} {rt : RB} {re : RE} {vs : List Nat} {δ : Sl} {S1 : Sto} {ds : List D} {Q : VK} {W : XK} (h : wpF wd K mg α F H ((noErr (lcL g rt re ds (wipeD δ vs) S1)).bind fun ys S2 => if ys.length ≤ sizeLine then .ok (.lst ys) S2 else .stuck) Q W) :
    ∃ zs S2, lcL g rt re ds (wipeD δ vs) S1 = .ok zs S2 ∧ zs.length ≤ sizeLine ∧ wpF wd K mg α F H (.ok (.lst zs) S2) Q W := by
  cases q : lcL g rt re ds (wipeD δ vs) S1 with
  | ok zs S2 =>
    rw [q] at h
    have h' : wpF wd K mg α F H (if zs.length ≤ sizeLine then .ok (.lst zs) S2 else .stuck) Q W := h
    split at h'
    · rename_i hl; exact ⟨zs, S2, rfl, hl, h'⟩
    · exact h'.elim
  | err c fs S2 => rw [q] at h; exact h.elim
  | stuck => rw [q] at h; exact h.elim
theorem lc_snd {ri : RA} {wi : TI} {scope : Scope} {vs : List Nat} {tg elt : Expr} {ifs : List Expr} {t : TG} {tt : TT} {g : RG} {rt : RB} {re : RE} (si : SndI X.w X.K X.mg W wi ri) (L : PLc X vs scope tg elt ifs t tt g rt re) {σ : L2.St} {δ : Sl} {Q : VK}
    (hr : Rel X.w X.K X.mg α F H S) (hs : Slots X.w X.K X.mg F α σ δ) (h : wpF X.w X.K X.mg α F H (rLc ri g vs rt re δ S) Q (fun c d H' => W c d σ H')) : tLc wi t tt (tCanE X.w X.K X.mg W0 re) vs σ H Q := by
  refine si α F σ H δ S _ hr hs (wpF.bind h fun ds S1 _ J H1 β F1 r1 q1 v1 h1 => ?_)
  intro ad hD
  obtain ⟨zs, S2, e1, e2, h2⟩ := lc_fits h1
  refine lc_all (Qd := fun H' => Q (.ref ad) H') L r1 (hs.mono q1.sub) v1 hD e1 e2 fun H' γ F' r2 q2 n f o => ?_
  exact h2 ad H' γ F' r2 q2 hD n f o rfl
theorem pf_lc {tg iter elt : Expr} {ifs : List Expr} {scope : Scope} {own : List (Str × Nat)} {t : TG} {tt : TT} {ri : RA} {g : RG} {rt : RB} {re : RE} (hc : X.calm = true) (hN : X.N.Nodup) (hi : PId X W tg iter ri) (ok : BlkOk X.N X.env.scope scope own) (L : PLc X (own.map (·.2)) scope tg elt ifs t tt g rt re)
    (hsx : ∀ x, foldedSetIterable iter X.env x = pure x := by intro _; rfl) : PF X W (.ListComp elt [⟨tg, iter, ifs, 0⟩] scope pos) (rLc ri g (own.map (·.2)) rt re) := by
  obtain ⟨wi, p1, s1⟩ := hi.ex
  exact ⟨_, pe_lc hc hN p1 ok (fun s H C cl fp => (L.g s H C cl fp).pg) L.t (fun s H C cl fp => (L.e s H C cl fp).can) hsx, fun α F σ H δ S Q hr hs h => lc_snd s1 L hr hs h⟩
/-- what is done with a made list: it is the store's, or stands for good -/
theorem wpF.keep {r : Res D} {σ : L2.St} {Q : VK} (h : wp wd K mg α F H (relD wd K mg) (r.bind fun d S1 => match d with | .lst ds => .ok (.lst ds) S1 | _ => .stuck) Q (fun c d H' => W c d σ H')) : wpF wd K mg α F H r Q (fun c d H' => W c d σ H') := by
  cases r with
  | ok d S' =>
    intro p H' β F' r1 s1 hp ha hf ho hd
    cases d with
    | lst ds =>
      have h2 : wp wd K mg α F H (relD wd K mg) (.ok (.lst ds) S') Q _ := h
      obtain ⟨xs, o1, o2⟩ := ho
      obtain ⟨a1, a2⟩ := r1.freeze (o := .lst xs) ha hf o1
      exact h2 (.ref p) H' β (upd F' p (.lst xs)) a1 ⟨s1.new, s1.sub.trans a2, s1.frame, s1.live, fun a g1 g2 g3 => by
        have z : a ≠ p := fun z => g3 (z ▸ hp)
        rw [upd_ne z]; exact s1.fnew a g1 g2 g3⟩ (.lst (.inl (Rd.of upd_same)) (by have := o2.mono (β := []) a2; rw [List.append_nil] at this; exact this))
    | _ => exact (show False from h).elim
  | err c fs S' => exact h
  | stuck => exact h
theorem wpF.ownd {r : Res D} {σ : L2.St} {Q : VK} (h : wp wd K mg α F H (relD wd K mg) (r.bind fun d S1 => .ok (.ptr S1.length) (S1 ++ [d])) Q (fun c d H' => W c d σ H')) : wpF wd K mg α F H r Q (fun c d H' => W c d σ H') := by
  cases r with
  | ok d S' =>
    intro p H' β F' r1 s1 hp ha hf ho hd
    have h2 : wp wd K mg α F H (relD wd K mg) (.ok (.ptr S'.length) (S' ++ [d])) Q _ := h
    refine h2 (.ref p) H' (β ++ [p]) F' ?_ ⟨fun b hb => ?_, s1.sub, s1.frame, s1.live, s1.fnew⟩ ?_
    · rw [← List.append_assoc]
      exact r1.adopt ha hf ho hd
    · rcases List.mem_append.mp hb with z | z
      · exact s1.new b z
      · have : b = p := by simpa using z
        rw [this]; exact hp
    · rw [← List.append_assoc]
      refine .ptr ?_
      rw [List.getElem?_append_right (by rw [r1.len]; exact Nat.le_refl _), r1.len, Nat.sub_self] <;> rfl
  | err c fs S' => exact h
  | stuck => exact h
/-- name = [..] on one line -/
theorem psd_setLc {i : Nat} {y : Str} {py pos' : Pos} {tg iter elt : Expr} {ifs : List Expr} {scope : Scope} {own : List (Str × Nat)} {t : TG} {tt : TT} {ri : RA} {g : RG} {rt : RB} {re : RE} (hc : X.calm = true) (hN : X.N.Nodup) (hi : PId X W tg iter ri) (ok : BlkOk X.N X.env.scope scope own) (L : PLc X (own.map (·.2)) scope tg elt ifs t tt g rt re)
    (hsw : swapsWith (.ListComp elt [⟨tg, iter, ifs, 0⟩] scope pos) (some (.Name y py)) pos'.line X.env = pure true) (hy : X.N[i]? = some y := by rfl) (hyl : X.env.scope.names.lookup y = some .local := by rfl) (hsx : ∀ x, foldedSetIterable iter X.env x = pure x := by intro _; rfl) :
    PSd X W (.Assign [.Name y py] (.ListComp elt [⟨tg, iter, ifs, 0⟩] scope pos) pos') (sAsg (rKeep (rLc ri g (own.map (·.2)) rt re)) (gName i)) ∧ PSd X W (.Assign [.Name y py] (.ListComp elt [⟨tg, iter, ifs, 0⟩] scope pos) pos') (sAsg (rOwn (rLc ri g (own.map (·.2)) rt re)) (gName i)) := by
  obtain ⟨wi, p1, s1⟩ := hi.ex
  have P := ps_setLc (te := tCanE X.w X.K X.mg W0 re) (i := i) hc hN hy hyl hsw p1 ok (fun s H C cl fp => (L.g s H C cl fp).pg) L.t (fun s H C cl fp => (L.e s H C cl fp).can) hsx
  have nm : ∀ {α β : List Addr} {F F1 H H1 : Hp} {S1 : Sto} {σ : L2.St} {δ : Sl} {E : Ends} {d : D} {v : V}, Slots X.w X.K X.mg F α σ δ → Rel X.w X.K X.mg (α ++ β) F1 H1 S1 → Stp α F H β F1 H1 → DV X.w X.K X.mg F1 (α ++ β) v d → wpS X.w X.K X.mg (α ++ β) F1 H1 ((gName i d δ S1).out δ fun δ1 S2 => .nx δ1 S2) E W → E.nx (σ.set i (some v)) H1 := by
    intro α β F F1 H H1 S1 σ δ E d v hs hr st hv h
    unfold gName at h
    split at h
    · exact wpS.nx h hr ((hs.mono st.sub).set hv)
    · exact h.elim
  refine ⟨⟨_, P, fun α F σ H δ S E hr hs h => ?_⟩, ⟨_, P, fun α F σ H δ S E hr hs h => ?_⟩⟩
  · exact lc_snd s1 L hr hs (wpF.keep (wpS.out h hs fun d S1 _ x H1 β F1 r1 q1 v1 h1 => nm hs r1 q1 v1 h1))
  · exact lc_snd s1 L hr hs (wpF.ownd (wpS.out h hs fun d S1 _ x H1 β F1 r1 q1 v1 h1 => nm hs r1 q1 v1 h1))
/-! ### defs -/
theorem closedK_snd {n : Nat} : ∀ {kvs : List (D × D)}, closedK n kvs = true → closedL n (kvs.map (·.2)) = true
  | [], _ => rfl
  | (k, v) :: r, h => by
    unfold closedK at h
    rw [Bool.and_eq_true, Bool.and_eq_true] at h
    show (D.closed n v && closedL n (r.map (·.2))) = true
    rw [h.1.2, closedK_snd h.2]
    rfl
mutual
theorem DV.shrink {v : V} {d : D} : D.closed α.length d = true → DV wd K mg F (α ++ β) v d → DV wd K mg F α v d
  | _, .non => .non
  | _, .bl b => .bl b
  | _, .int i => .int i
  | _, .str x => .str x
  | h, .tup a t => .tup a (DVs.shrink (by simpa [D.closed] using h) t)
  | h, .tux a t => .tux a (DVs.shrink (by simpa [D.closed] using h) t)
  | h, .lst a t => .lst a (DVs.shrink (by simpa [D.closed] using h) t)
  | h, .ptr e => by
    rename_i k a
    have hk : k < α.length := by simpa [D.closed] using h
    rw [List.getElem?_append_left hk] at e
    exact .ptr e
  | _, .fn e => .fn e
  | _, .ty n => .ty n
  | h, .exc h1 h2 h3 h4 h5 => .exc h1 h2 h3 h4 (DVs.shrink (closedK_snd (by simpa [D.closed] using h)) h5)
  | h, .dc0 h1 h2 => .dc0 h1 (DV.shrink (by simpa [D.closed] using h) h2)
  | h, .lam h1 h2 => .lam h1 (DVs.shrink (by simpa [D.closed] using h) h2)
theorem DVs.shrink {vs : List V} {ds : List D} : closedL α.length ds = true → DVs wd K mg F (α ++ β) vs ds → DVs wd K mg F α vs ds
  | _, .nil => .nil
  | h, .cons a t => by
    unfold closedL at h
    rw [Bool.and_eq_true] at h
    exact .cons (DV.shrink h.1 a) (DVs.shrink h.2 t)
end
theorem NVs.shrink {xs : List (NestedKey × Addr × V)} : ∀ {kvs : List (D × D)}, closedK α.length kvs = true → NVs wd K mg F (α ++ β) xs kvs → NVs wd K mg F α xs kvs := fun {kvs} h q => by
  induction q with
  | nil => exact .nil
  | cons h1 h2 h3 h4 h6 _ ih =>
    unfold closedK at h
    rw [Bool.and_eq_true, Bool.and_eq_true] at h
    exact .cons h1 h2 (h3.shrink h.1.1) h4 (h6.shrink h.1.2) (ih h.2)
theorem Own.shrink {a : Addr} {d : D} (o : Own wd K mg F (α ++ β) H a d) (hc : D.closed α.length d = true) : Own wd K mg F α H a d := by
  cases d with
  | lst ds => obtain ⟨xs, e1, e2⟩ := o; exact ⟨xs, e1, e2.shrink (by simpa [D.closed] using hc)⟩
  | dct kvs => obtain ⟨ws, e1, e2, e3⟩ := o; exact ⟨ws, e1, e2, e3.shrink (closedK_snd (by simpa [D.closed] using hc))⟩
  | dcn kvs => obtain ⟨ws, e1, e2⟩ := o; exact ⟨ws, e1, e2.shrink (by simpa [D.closed] using hc)⟩
  | lck u =>
    cases u with
    | dct kvs => obtain ⟨o, ws, e0, e1, e2, e3⟩ := o; exact ⟨o, ws, e0, e1, e2, e3.shrink (closedK_snd (by simpa [D.closed] using hc))⟩
    | dcn kvs => obtain ⟨o, ws, e0, e1, e2⟩ := o; exact ⟨o, ws, e0, e1, e2.shrink (by simpa [D.closed] using hc)⟩
    | _ => exact o.elim
  | non => trivial
  | lam _ _ _ _ _ => exact o
  | exc c fs => obtain ⟨dx, vs, e1, e2, e3⟩ := o; exact ⟨dx, vs, e1, e2, e3.shrink (closedK_snd (by simpa [D.closed] using hc))⟩
  | _ => exact o.elim
theorem closedL_get {n : Nat} : ∀ {ds : List D} {k : Nat} {d : D}, closedL n ds = true → ds[k]? = some d → D.closed n d = true
  | [], _, _, _, e => by simp at e
  | d :: r, 0, _, h, e => by
    unfold closedL at h
    rw [Bool.and_eq_true] at h
    simp at e; subst e
    exact h.1
  | d :: r, k + 1, _, h, e => by
    unfold closedL at h
    rw [Bool.and_eq_true] at h
    exact closedL_get (k := k) h.2 (by simpa using e)
theorem Rel.trunc (r : Rel wd K mg (α ++ β) F H S) (h : closedL α.length (S.take α.length) = true) : Rel wd K mg α F H (S.take α.length) := by
  have hl := r.len
  rw [List.length_append] at hl
  refine ⟨r.sub, by rw [List.length_take]; omega, (List.nodup_append.mp r.nd).1, fun a ha => r.here a (List.mem_append_left _ ha), fun k a d h1 h2 => ?_⟩
  have hk : k < α.length := (List.getElem?_eq_some_iff.mp h1).1
  have hc := closedL_get h h2
  rw [List.getElem?_take, if_pos hk] at h2
  obtain ⟨o, q⟩ := r.own k a d (by rw [List.getElem?_append_left hk]; exact h1) h2
  exact ⟨o.shrink hc, q⟩
theorem Rel.give {k : Nat} {a : Addr} {u : D} (r : Rel wd K mg (α ++ β) F H S) (hc : closedL α.length (S.take α.length) = true) (ha : (α ++ β)[k]? = some a) (hk : α.length ≤ k) (hu : S[k]? = some u) (ho : u.owned = true) (hd : D.closed α.length u = true) : a ∈ β ∧ Rel wd K mg (α ++ [a]) F H (S.take α.length ++ [u]) := by
  have r0 := Rel.trunc r hc
  have hb : a ∈ β := by
    rw [List.getElem?_append_right hk] at ha
    exact List.mem_of_getElem? ha
  have hn : a ∉ α := fun h => (List.nodup_append.mp r.nd).2.2 a h a hb rfl
  have hz : u.open = true := by cases u <;> first | rfl | cases ho
  obtain ⟨o1, o2⟩ := r.own k a u ha hu
  exact ⟨hb, r0.adopt hn (o2 hz) (o1.shrink hd) hz⟩
theorem Stp.one {F' H' : Hp} {a : Addr} (s : Stp α F H β F' H') (h : a ∈ β) : Stp α F H [a] F' H' := ⟨fun b hb => by rw [List.mem_singleton.mp hb]; exact s.new a h, s.sub, s.frame, s.live, s.fnew⟩
theorem Stp.drop {F' H' : Hp} (s : Stp α F H β F' H') : Stp α F H [] F' H' := ⟨(fun _ h => nomatch h), s.sub, s.frame, s.live, s.fnew⟩
theorem slots_start {N : List Str} {vs : List V} {ds : List D} (hv : DVs wd K mg F α vs ds) : Slots wd K mg F α (L2.start N vs) (ds.map some ++ List.replicate (N.length - ds.length) none) := by
  have hl := hv.length
  refine ⟨by unfold L2.start; simp [hl], fun i d e => ?_⟩
  unfold L2.start
  by_cases h : i < ds.length
  · rw [List.getElem?_append_left (by simpa using h), List.getElem?_map] at e
    obtain ⟨d', e1⟩ : ∃ d', ds[i]? = some d' := ⟨_, List.getElem?_eq_getElem h⟩
    rw [e1] at e
    have : d' = d := by simpa using e
    subst this
    obtain ⟨v, e2, e3⟩ := hv.get e1
    refine ⟨v, ?_, e3⟩
    rw [List.getElem?_append_left (by rw [List.length_map, hl]; exact h), List.getElem?_map, e2] <;> rfl
  · rw [List.getElem?_append_right (by simpa using h), List.getElem?_replicate] at e
    split at e <;> cases e
theorem fn_G {P : Program} {w : World} {base : Heap} {x qual : Str} {st : Stmt} {f : Addr} {fd : FuncData} {N ps : List Str} {k : Nat} {sp : Sp} (Fu : Fun K x qual st f fd) (Sc : FnScope N ps (defScope st)) (len : ∀ vs H Q E, sp vs H Q E → vs.length = ps.length)
    (hbody : ∀ (cdv : Value) (A : Around) (outer : List Env) (s : Shared) (H : Hp) (vs : List V) (Q : VK) (E : XK), Room k (A.deeper (envOfC qual (defScope st) s.heap.objs.size f cdv)) → A.guards = some [] → sp vs H Q E →
      ∃ t, PSs (cxOf (L2.CX P w) P w K mg base N qual (defScope st) f cdv A outer s H E) (defBody st) t ∧ t ⟨fun _ H' => Q .non H', Q, fun _ _ => False, fun _ _ => False⟩ (L2.start N vs) H) : FnG P w K mg base (k + 1) f fd ps sp := by
  obtain ⟨oc, od, kV, doc, pm, an, cdv, ct, osl, rfl, lk, hcd⟩ := Fu.ex
  refine ⟨len, fun A outer s H args us vs Q E room hG e0 hb rv hsp => ?_⟩
  have kin : K.In s.heap := e0.mod.kin.keeps fun b o e => (e0.bs b o e).1
  have names : ∀ y ∈ ps.zip us, (defScope st).names.lookup y.1 = some .local ∨ ((defScope st).names.lookup y.1 = some .cell ∧ ((cellsFrom (s.heap.objs.size + 1) (defScope st).names []).lookup y.1).isSome = true) := fun y hy =>
    (Sc.par y.1 (List.of_mem_zip hy).1).imp id fun q => ⟨q, PySem.W.cellsFrom_some _ _ _ (.inl q)⟩
  refine codeAny_call_function room.depth (kin _ _ lk) rfl Sc.co Sc.gen rfl (PySem.W.codeRec_of kin hcd) (hb _ _ _ _ (wpAny_newFunctionEnv_cells Sc.kind names fun env he s1 x => ?_))
  subst he
  refine ⟨(e0.mod.nolimit.keeps fun b o e => (e0.bs b o e).1).keeps x.toInCall.keep, codeAny_func ?_⟩
  obtain ⟨t, ht, hq⟩ := hbody cdv A outer s H vs Q E (room.deeper _) hG hsp
  refine wpAny_mono (ht.run [] s1 (L2.start N vs) H _ (inv_start Sc room.hd e0 (len _ _ _ _ hsp) rv x) hq) ?_ fun _ _ hs => hs
  intro fl s' hs
  cases fl with
  | ret u =>
    obtain ⟨v, _, H', J, r, q⟩ := hs
    exact ⟨v, H', J.os, J.bare, J.base, J.hok, r, q⟩
  | next =>
    obtain ⟨_, H', J, q⟩ := hs
    exact ⟨V.non, H', J.os, J.bare, J.base, J.hok, rfl, q⟩
  | brk => obtain ⟨_, _, _, q⟩ := hs; exact q.elim
  | cont => obtain ⟨_, _, _, q⟩ := hs; exact q.elim
theorem fn_okD {P : Program} {w : World} {base : Heap} {x qual : Str} {st : Stmt} {f : Addr} {fd : FuncData} {N ps : List Str} {k : Nat} {r : RS} (Fu : Fun K x qual st f fd) (Sc : FnScope N ps (defScope st))
    (hbody : ∀ (cdv : Value) (A : Around) (outer : List Env) (s : Shared) (H : Hp) (E : XK), Room k (A.deeper (envOfC qual (defScope st) s.heap.objs.size f cdv)) → A.guards = some [] → PSds (cxOf (L2.CX P w) P w K mg base N qual (defScope st) f cdv A outer s H E) (fun cls d _ H => E cls d H) (defBody st) r) :
    FnG P w K mg base (k + 1) f fd ps (spD w K mg ps.length (mDef N.length r)) := by
  refine fn_G Fu Sc (fun vs H Q E h => h.1) fun cdv A outer s H vs Q E hr hG h => ?_
  obtain ⟨hl, α, F, S, ds, h1, h2, h3⟩ := h
  obtain ⟨t, pt, st⟩ := (hbody cdv A outer s H E hr hG).ex
  refine ⟨t, pt, st α F _ H _ S _ h1 (slots_start h2) ?_⟩
  have h3 : wp w K mg α F H (relD w K mg) (mDef N.length r ds S) Q E := h3
  have hl : α.length = S.length := h1.len
  unfold mDef at h3
  rw [← hl] at h3
  have an : α ++ [] = α := List.append_nil α
  cases q : r (ds.map some ++ List.replicate (N.length - ds.length) none) S with
  | nx δ S1 =>
    rw [q] at h3
    dsimp only at h3
    split at h3
    · rename_i hc
      intro σ' H' β F' r1 s1 _
      exact h3 .non H' [] F' (by rw [an]; exact Rel.trunc r1 hc) s1.drop .non
    · exact h3.elim
  | rt d S1 =>
    rw [q] at h3
    dsimp only at h3
    split at h3
    · rename_i hc
      rw [Bool.and_eq_true] at hc
      intro v H' β F' r1 s1 hv
      exact h3 v H' [] F' (by rw [an]; exact Rel.trunc r1 hc.2) s1.drop (by rw [an]; exact DV.shrink hc.1 hv)
    · unfold giveD at h3
      cases d with
      | ptr k =>
        dsimp only at h3
        cases q2 : S1[k]? with
        | none => rw [q2] at h3; exact h3.elim
        | some u =>
          rw [q2] at h3
          dsimp only at h3
          split at h3
          · rename_i hc
            rw [Bool.and_eq_true, Bool.and_eq_true, Bool.and_eq_true, decide_eq_true_eq] at hc
            intro v H' β F' r1 s1 hv
            cases hv with
            | ptr ea =>
              rename_i a
              obtain ⟨g1, g2⟩ := Rel.give r1 hc.2 ea hc.1.2 q2 hc.1.1.1 hc.1.1.2
              exact h3 (.ref a) H' [a] F' g2 (s1.one g1) (.ptr (by rw [List.getElem?_append_right (Nat.le_refl _), Nat.sub_self]; rfl))
          · exact h3.elim
      | _ => exact h3.elim
  | err c fs δ S1 =>
    rw [q] at h3
    dsimp only at h3
    split at h3
    · rename_i hc
      rw [Bool.and_eq_true] at hc
      intro cls dd σ' H' β F' r1 s1 _ he
      refine h3 cls dd H' [] F' (by rw [an]; exact Rel.trunc r1 hc.2) s1.drop ?_
      rw [an]
      refine ⟨he.1, he.2.imp id fun ⟨d, xs, e1, e2, e3, e4⟩ => ⟨d, xs, e1, e2, e3, DVs.shrink hc.1 e4⟩⟩
    · exact h3.elim
  | bk δ S1 => rw [q] at h3; exact h3.elim
  | ct δ S1 => rw [q] at h3; exact h3.elim
  | stuck => rw [q] at h3; exact h3.elim
/-! ### ghost steps -/
theorem psds_freeze {sts : List Stmt} {i : Nat} {r : RS} (h : PSds X W sts r) : PSds X W sts (sSeq (sFreeze i) r) := by
  obtain ⟨t, pt, st⟩ := h.ex
  refine ⟨t, pt, fun α F σ H δ S E hr hs h => ?_⟩
  unfold sSeq sFreeze at h
  cases q : δ[i]? with
  | none => rw [q] at h; exact h.elim
  | some o =>
    rw [q] at h
    cases o with
    | none => exact h.elim
    | some d =>
      cases d with
      | ptr k =>
        cases q2 : S[k]? with
        | none => simp only [q2] at h; exact h.elim
        | some u =>
          cases u with
          | lst ds =>
            simp only [q2] at h
            obtain ⟨v, e1, e2⟩ := hs.2 i _ q
            cases e2 with
            | ptr ea =>
              rename_i a
              obtain ⟨o1, o2⟩ := hr.own k a _ ea q2
              obtain ⟨xs, o3, o4⟩ := o1
              have hf := o2 rfl
              have sb : Sub F (upd F a (.lst xs)) := Sub.new hf
              have an : α ++ [] = α := List.append_nil α
              have st1 : Stp α F H [] (upd F a (.lst xs)) H := ⟨(fun _ h => nomatch h), sb, fun _ _ _ h => h, fun _ h => h, fun b h1 h2 _ => by
                have z : b ≠ a := fun z => h1 (z ▸ List.mem_of_getElem? ea)
                rw [upd_ne z]; exact h2⟩
              have rl : Rel X.w X.K X.mg α (upd F a (.lst xs)) H (S.set k .non) := by
                refine ⟨fun b u e => ?_, by rw [List.length_set]; exact hr.len, hr.nd, hr.here, fun j b u g1 g2 => ?_⟩
                · by_cases z : b = a
                  · subst z; rw [upd_same] at e; rw [o3]; exact e
                  · rw [upd_ne z] at e; exact hr.sub _ _ e
                · by_cases z : j = k
                  · subst z
                    rw [List.getElem?_set_self (List.getElem?_eq_some_iff.mp q2).1] at g2
                    cases g2
                    exact ⟨trivial, fun z => (nomatch z)⟩
                  · rw [List.getElem?_set_ne (Ne.symm z)] at g2
                    obtain ⟨h3, h4⟩ := hr.own j b u g1 g2
                    have y : b ≠ a := fun y => by
                      subst y
                      exact z ((List.getElem_inj hr.nd).mp ((List.getElem?_eq_some_iff.mp g1).2.trans (List.getElem?_eq_some_iff.mp ea).2.symm))
                    have h5 : Own X.w X.K X.mg (upd F a (.lst xs)) (α ++ []) H b u := h3.mono sb rfl
                    rw [an] at h5
                    exact ⟨h5, fun hd => by rw [upd_ne y]; exact h4 hd⟩
              have hs1 : Slots X.w X.K X.mg (upd F a (.lst xs)) α σ δ := by have := hs.mono (β := []) sb; rw [an] at this; exact this
              have hs2 : Slots X.w X.K X.mg (upd F a (.lst xs)) α σ (δ.set i (some (.lst ds))) := by
                refine ⟨by rw [List.length_set]; exact hs1.1, fun j d g => ?_⟩
                by_cases z : j = i
                · subst z
                  rw [List.getElem?_set_self (List.getElem?_eq_some_iff.mp q).1] at g
                  cases g
                  exact ⟨_, e1, .lst (.inl (Rd.of upd_same)) (by have := o4.mono (β := []) sb; rw [an] at this; exact this)⟩
                · rw [List.getElem?_set_ne (Ne.symm z)] at g
                  exact hs1.2 j d g
              have h2 := wpS.step st1 h
              rw [an] at h2
              exact st α _ σ H _ _ E rl hs2 h2
          | _ => simp only [q2] at h; exact h.elim
      | _ => exact h.elim
end
end DL
set_option Elab.async false
set_option linter.all false
set_option maxRecDepth 100000
set_option maxHeartbeats 4000000
set_option autoImplicit false
/-! Data layer, seventh part: operators on data. -/
namespace DL
open PySem PySem.Spec PyProof.Rows L2
/-! ### what they come to -/
def gAdd : Sto → D → D → Option D := fun S d e => match deref S d, deref S e with
  | .int i, .int j => some (.int (i + j))
  | .str x, .str y => if x.length + y.length ≤ sizeLine then some (.str (x ++ y)) else none
  | .tup xs, .tup ys => if xs.length + ys.length ≤ sizeLine then some (.tup (xs ++ ys)) else none
  | _, _ => none
def gCat : Sto → D → D → Option D := fun S d e => match deref S d, deref S e with
  | .lst xs, .lst ys => if xs.length + ys.length ≤ sizeLine then some (.lst (xs ++ ys)) else none
  | _, _ => none
def gSub : Sto → D → D → Option D := fun _ d e => match d, e with
  | .int i, .int j => some (.int (i - j))
  | _, _ => none
/-- the sizes of two factors -/
def mulFits (i j : Int) : Bool := decide (i.natAbs.log2 + j.natAbs.log2 < 100000000) || (decide (i.natAbs < 2 ^ 64) || decide (j.natAbs < 2 ^ 64))
def gMul : Sto → D → D → Option D := fun _ d e => match d, e with
  | .int i, .int j => if mulFits i j then some (.int (i * j)) else none
  | _, _ => none
def gDiv : Sto → D → D → Option D := fun _ d e => match d, e with
  | .int i, .int j => if j ≠ 0 ∧ j.natAbs.log2 < 9000 then some (.int (i.fdiv j)) else none
  | _, _ => none
def gMod : Sto → D → D → Option D := fun _ d e => match d, e with
  | .int i, .int j => if j ≠ 0 then some (.int (i.fmod j)) else none
  | _, _ => none
def gPow : Sto → D → D → Option D := fun _ d e => match d, e with
  | .int i, .int j => if 0 ≤ j ∧ ((j ≤ 1000000 ∧ i.natAbs < 2 ^ 64) ∨ (Builtin.Int.intBits i : Int) * j ≤ 2 ^ 27) then some (.int (i ^ j.toNat)) else none
  | _, _ => none
def gNeg : Sto → D → Option D := fun _ d => match d with
  | .int i => some (.int (-i))
  | _ => none
def gLt : Sto → D → D → Option D := fun _ d e => match d, e with
  | .int i, .int j => some (.bl (decide (i < j)))
  | _, _ => none
def gLe : Sto → D → D → Option D := fun _ d e => match d, e with
  | .int i, .int j => some (.bl (decide (i ≤ j)))
  | _, _ => none
def gGt : Sto → D → D → Option D := fun _ d e => match d, e with
  | .int i, .int j => some (.bl (decide (j < i)))
  | _, _ => none
def gGe : Sto → D → D → Option D := fun _ d e => match d, e with
  | .int i, .int j => some (.bl (decide (j ≤ i)))
  | _, _ => none
mutual
/-- as the model's data -/
def toPy (S : Sto) : D → Option PyData
  | .non => some .none
  | .bl b => some (.bool b)
  | .int i => some (.int i)
  | .str x => some (.str x)
  | .tup xs => (toPys S xs).map .tuple
  | .lst xs => (toPys S xs).map .list
  | _ => none
def toPys (S : Sto) : List D → Option (List PyData)
  | [] => some []
  | d :: r => match toPy S d, toPys S r with
    | some x, some xs => some (x :: xs)
    | _, _ => none
end
def eqD (S : Sto) (d e : D) : Option Bool := match toPy S (deref S d), toPy S (deref S e) with
  | some x, some y => if SeqAt.shaped x && SeqAt.shaped y then some (PyData.eqv x y) else none
  | _, _ => none
def gEq : Sto → D → D → Option D := fun S d e => (eqD S d e).map .bl
def gNe : Sto → D → D → Option D := fun S d e => (eqD S d e).map fun b => .bl (!b)
def gIs : Sto → D → D → Option D := fun _ d e => match e with
  | .non => (match d with
    | .non => some (.bl true)
    | .ptr _ => some (.bl false)
    | _ => some (.bl false))
  | .bl b => (match d with
    | .bl a => some (.bl (decide (a = b)))
    | _ => none)
  | _ => none
def gIsN : Sto → D → D → Option D := fun S d e => match gIs S d e with
  | some (.bl b) => some (.bl (!b))
  | _ => none
section
variable {X : Cx} {W : WX} {a b c e : Expr} {es rest : List Expr} {ra rb rc : RE} {ba bb : RB} {rs : RA} {pos p : Pos} {wd : World} {K : Fg} {mg : Str → Option Value} {α β : List Addr} {F F1 H H1 : Hp} {S : Sto}
/-- two ints by a rule -/
theorem opg_int {f : Value → Value → Sem Value} {C : Int → Int → Prop} {h : Int → Int → Int} {g : Sto → D → D → Option D} (ho : OpR X f (rI C fun i j => .int (h i j)))
    (hg : ∀ S d e z, g S d e = some z → ∃ i j, d = .int i ∧ e = .int j ∧ C i j ∧ z = .int (h i j)) : OpG X f g := by
  refine ⟨_, ho, fun α F H S x y d e z Q hr hx hy hz q => ?_⟩
  obtain ⟨i, j, rfl, rfl, hc, rfl⟩ := hg S d e z hz
  cases hx; cases hy
  have an : α ++ [] = α := List.append_nil α
  exact ⟨i, j, rfl, rfl, hc, q _ H [] F (by rw [an]; exact hr) Stp.refl (.int _)⟩
theorem g_sub : OpG X (binaryOp .Sub) gSub := by
  refine ⟨_, op_sub, fun α F H S x y d e z Q hr hx hy hz q => ?_⟩
  unfold gSub at hz
  split at hz
  · cases hz; cases hx; cases hy
    have an : α ++ [] = α := List.append_nil α
    exact ⟨_, _, rfl, rfl, q _ H [] F (by rw [an]; exact hr) Stp.refl (.int _)⟩
  · cases hz
theorem mulFits_ok {i j : Int} (h : mulFits i j = true) : IntMulOk i j := by
  unfold mulFits at h
  rw [Bool.or_eq_true, Bool.or_eq_true] at h
  rcases h with h | h | h
  · have hl := of_decide_eq_true h
    have hb : ∀ k : Int, Builtin.Int.intBits k ≤ k.natAbs.log2 + 1 := fun k => by
      unfold Builtin.Int.intBits
      split
      · exact Nat.zero_le _
      · exact Nat.le_refl _
    exact IntMulOk.of_le (hb i) (hb j) (by omega)
  · have := of_decide_eq_true h
    exact CMul.ok (.inl ⟨by omega, by omega⟩)
  · have := of_decide_eq_true h
    exact CMul.ok (.inr ⟨by omega, by omega⟩)
theorem op_mulX : OpR X (binaryOp .Mult) (rI (fun i j => mulFits i j = true) fun i j => .int (i * j)) := opI fun _ _ _ _ _ _ _ hc q => mul_int q (mulFits_ok hc)
theorem g_mul : OpG X (binaryOp .Mult) gMul := opg_int op_mulX fun S d e z h => by
  unfold gMul at h
  split at h
  · split at h
    · rename_i q
      cases h
      exact ⟨_, _, rfl, rfl, q, rfl⟩
    · cases h
  · cases h
theorem op_fdivA : OpR X (binaryOp .FloorDiv) (rI (fun _ j => j ≠ 0 ∧ j.natAbs.log2 < 9000) fun i j => .int (i.fdiv j)) := opI fun i j _ _ _ _ _ hc q => floordiv_int hc.1 q (.inl (PyProof.noPylong_of_log2 hc.2))
theorem g_div : OpG X (binaryOp .FloorDiv) gDiv := opg_int op_fdivA fun S d e z h => by
  unfold gDiv at h
  split at h
  · split at h
    · rename_i q
      cases h
      exact ⟨_, _, rfl, rfl, q, rfl⟩
    · cases h
  · cases h
theorem g_mod : OpG X (binaryOp .Mod) gMod := opg_int op_modN fun S d e z h => by
  unfold gMod at h
  split at h
  · split at h
    · rename_i q
      cases h
      exact ⟨_, _, rfl, rfl, q, rfl⟩
    · cases h
  · cases h
def CPowW (i j : Int) : Prop := 0 ≤ j ∧ ((j ≤ 1000000 ∧ i.natAbs < 2 ^ 64) ∨ (Builtin.Int.intBits i : Int) * j ≤ 2 ^ 27)
theorem op_powW : OpR X (binaryOp .Pow) (rI CPowW fun i j => .int (i ^ j.toNat)) := opI fun _ _ _ _ _ _ _ hc q => by
  rcases hc with ⟨h0, ⟨h1, h2⟩ | h1⟩
  · exact pow_int_small h0 h1 h2 q
  · exact PyProof.Rows.pow_int h0 h1 q
theorem g_pow : OpG X (binaryOp .Pow) gPow := by
  refine ⟨_, op_powW, fun α F H S x y d e z Q hr hx hy hz q => ?_⟩
  unfold gPow at hz
  split at hz
  · split at hz
    · rename_i hc
      cases hz; cases hx; cases hy
      have an : α ++ [] = α := List.append_nil α
      exact ⟨_, _, rfl, rfl, hc, q _ H [] F (by rw [an]; exact hr) Stp.refl (.int _)⟩
    · cases hz
  · cases hz
theorem u_neg : OkU X (rU fun i => .int (-i)) gNeg := by
  intro α F H S x d z Q hr hx hz q
  unfold gNeg at hz
  split at hz
  · cases hz; cases hx
    have an : α ++ [] = α := List.append_nil α
    exact ⟨_, rfl, q _ H [] F (by rw [an]; exact hr) Stp.refl (.int _)⟩
  · cases hz
theorem pd_neg (ha : PD X W a ra) : PD X W (.UnaryOp .USub a pos) (rUn gNeg ra) := pd_un un_neg u_neg ha
/-! ### ==, != -/
mutual
theorem DV.dp {v : V} : ∀ {d : D} {x : PyData}, DV wd K mg F α v d → toPy S d = some x → Sub F H → Dp K H v x
  | _, _, .non, e, _ => by cases e; exact .non
  | _, _, .bl b, e, _ => by cases e; exact .bl b
  | _, _, .int i, e, _ => by cases e; exact .int i
  | _, _, .str y, e, _ => by cases e; exact .str y
  | _, _, .tup h t, e, s => by
    rename_i ds
    unfold toPy at e
    cases q : toPys S ds with
    | none => rw [q] at e; cases e
    | some ys => rw [q] at e; cases e; exact .tup (s.sqT h.1) (DVs.dp t q s)
  | _, _, .lst h t, e, s => by
    rename_i ds
    unfold toPy at e
    cases q : toPys S ds with
    | none => rw [q] at e; cases e
    | some ys => rw [q] at e; cases e; exact .lst (s.sqL h) (DVs.dp t q s)
  | _, _, .tux _ _, e, _ => by cases e
  | _, _, .ptr _, e, _ => by cases e
  | _, _, .fn _, e, _ => by cases e
  | _, _, .ty _, e, _ => by cases e
  | _, _, .exc _ _ _ _ _, e, _ => by cases e
  | _, _, .dc0 _ _, e, _ => by cases e
  | _, _, .lam _ _, e, _ => by cases e
theorem DVs.dp {vs : List V} : ∀ {ds : List D} {xs : List PyData}, DVs wd K mg F α vs ds → toPys S ds = some xs → Sub F H → DpAll K H vs xs
  | _, _, .nil, e, _ => by cases e; exact .nil
  | _, _, .cons h t, e, s => by
    rename_i d _ ds
    unfold toPys at e
    cases q1 : toPy S d with
    | none => rw [q1] at e; cases e
    | some x =>
      cases q2 : toPys S ds with
      | none => rw [q1, q2] at e; cases e
      | some xs => rw [q1, q2] at e; cases e; exact .cons (DV.dp h q1 s) (DVs.dp t q2 s)
end
theorem Rel.dp (hr : Rel wd K mg α F H S) {v : V} {d : D} {x : PyData} (h : DV wd K mg F α v d) (e : toPy S (deref S d) = some x) : Dp K H v x := by
  have s := hr.see h
  generalize deref S d = dd at e s
  cases s with
  | «at» h _ => exact h.dp e hr.sub
  | dead => cases e
  | lst q t =>
    rename_i ds
    unfold toPy at e
    cases q2 : toPys S ds with
    | none => rw [q2] at e; cases e
    | some ys => rw [q2] at e; cases e; exact .lst (SqL.of q) (t.dp q2 hr.sub)
  | dct _ _ _ => cases e
  | dcn _ _ => cases e
theorem Rel.eqD (hr : Rel wd K mg α F H S) {v u : V} {d e : D} {k : Bool} (h1 : DV wd K mg F α v d) (h2 : DV wd K mg F α u e) (q : DL.eqD S d e = some k) : ∃ x y, Dp K H v x ∧ Dp K H u y ∧ SeqAt.shaped x = true ∧ SeqAt.shaped y = true ∧ k = PyData.eqv x y := by
  unfold DL.eqD at q
  split at q
  · rename_i x y e1 e2
    split at q
    · rename_i hc
      rw [Bool.and_eq_true] at hc
      cases q
      exact ⟨x, y, hr.dp h1 e1, hr.dp h2 e2, hc.1, hc.2, rfl⟩
    · cases q
  · cases q
theorem g_eq (hu : X.A.units + 64 < cLine) : OpG X (compareOp .Eq) gEq := by
  refine ⟨_, op_eqD hu, fun α F H S x y d e z Q hr hx hy hz q => ?_⟩
  unfold gEq at hz
  cases q1 : DL.eqD S d e with
  | none => rw [q1] at hz; cases hz
  | some k =>
    rw [q1] at hz; cases hz
    obtain ⟨x', y', a1, a2, a3, a4, rfl⟩ := hr.eqD hx hy q1
    have an : α ++ [] = α := List.append_nil α
    exact ⟨x', y', a1, a2, a3, a4, q _ H [] F (by rw [an]; exact hr) Stp.refl (.bl _)⟩
theorem g_ne (hu : X.A.units + 64 < cLine) : OpG X (compareOp .NotEq) gNe := by
  refine ⟨_, op_neD hu, fun α F H S x y d e z Q hr hx hy hz q => ?_⟩
  unfold gNe at hz
  cases q1 : DL.eqD S d e with
  | none => rw [q1] at hz; cases hz
  | some k =>
    rw [q1] at hz; cases hz
    obtain ⟨x', y', a1, a2, a3, a4, rfl⟩ := hr.eqD hx hy q1
    have an : α ++ [] = α := List.append_nil α
    exact ⟨x', y', a1, a2, a3, a4, q _ H [] F (by rw [an]; exact hr) Stp.refl (.bl _)⟩
/-! ### is -/
theorem g_is : OpG X (compareOp .Is) gIs := by
  refine ⟨_, op_isN.or op_isBl, fun α F H S x y d e z Q hr hx hy hz q => ?_⟩
  have an : α ++ [] = α := List.append_nil α
  have fin : ∀ k, z = .bl k → Q (.bl k) H := fun k ek => by subst ek; exact q _ H [] F (by rw [an]; exact hr) Stp.refl (.bl _)
  unfold gIs at hz
  split at hz
  · cases hy
    refine .inl ⟨rfl, fin _ ?_⟩
    cases hx <;> cases hz <;> rfl
  · cases hy
    split at hz
    · cases hx
      cases hz
      exact .inr ⟨_, _, rfl, rfl, fin _ rfl⟩
    · cases hz
  · cases hz
theorem g_isN : OpG X (compareOp .IsNot) gIsN := by
  refine ⟨_, op_notN.or op_notBl, fun α F H S x y d e z Q hr hx hy hz q => ?_⟩
  have an : α ++ [] = α := List.append_nil α
  have fin : ∀ k, z = .bl k → Q (.bl k) H := fun k ek => by subst ek; exact q _ H [] F (by rw [an]; exact hr) Stp.refl (.bl _)
  unfold gIsN at hz
  split at hz
  · rename_i k q1
    cases hz
    unfold gIs at q1
    split at q1
    · cases hy
      refine .inl ⟨rfl, fin _ ?_⟩
      cases hx <;> cases q1 <;> rfl
    · cases hy
      split at q1
      · cases hx
        cases q1
        exact .inr ⟨_, _, rfl, rfl, fin _ rfl⟩
      · cases q1
    · cases q1
  · cases hz
end
end DL
set_option Elab.async false
set_option linter.all false
set_option maxRecDepth 100000
set_option maxHeartbeats 4000000
set_option autoImplicit false
/-! Data layer, eighth part: built-in functions, methods of texts, items, slices. -/
namespace DL
open PySem PySem.Spec PyProof.Rows L2
def tyName (S : Sto) (d : D) : Option String := match deref S d with
  | .non => some "NoneType"
  | .bl _ => some "bool"
  | .int _ => some "int"
  | .str _ => some "str"
  | .tup _ => some "tuple"
  | .lst _ => some "list"
  | .dct _ => some "dict"
  | _ => none
def gIsi : Sto → List D → Option D := fun S ds => match ds with
  | [d, .ty T] => (tyName S d).bind fun t => (kitB t T).map .bl
  | _ => none
def gLen : Sto → List D → Option D := fun S ds => match ds with
  | [d] => (match deref S d with
    | .str y => if y.length ≤ sizeLine then some (.int y.length) else none
    | .tup xs => some (.int xs.length)
    | .lst xs => some (.int xs.length)
    | _ => none)
  | _ => none
def gAbs : Sto → List D → Option D := fun _ ds => match ds with
  | [.int i] => some (.int (if i < 0 then -i else i))
  | _ => none
def asBls : List D → Option (List Bool)
  | [] => some []
  | .bl b :: r => (asBls r).map (b :: ·)
  | _ => none
def asInts : List D → Option (List Int)
  | [] => some []
  | .int b :: r => (asInts r).map (b :: ·)
  | _ => none
def gAll : Sto → List D → Option D := fun S ds => match ds with
  | [d] => (match deref S d with
    | .lst xs => (asBls xs).map fun bs => .bl (bs.all id)
    | _ => none)
  | _ => none
def gAny : Sto → List D → Option D := fun S ds => match ds with
  | [d] => (match deref S d with
    | .lst xs => (asBls xs).map fun bs => .bl (bs.any id)
    | _ => none)
  | _ => none
def gSum : Sto → List D → Option D := fun S ds => match ds with
  | [d] => (match deref S d with
    | .lst xs => (asInts xs).map fun bs => .int bs.sum
    | _ => none)
  | _ => none
section
variable {X : Cx} {W : WX} {a b c e : Expr} {es rest : List Expr} {ra rb rc : RE} {ba bb : RB} {rs : RA} {pos p : Pos} {wd : World} {K : Fg} {mg : Str → Option Value} {α β : List Addr} {F F1 H H1 : Hp} {S : Sto}
theorem asBls_eq : ∀ {xs : List D} {bs : List Bool}, asBls xs = some bs → xs = bs.map .bl
  | [], _, h => by cases h; rfl
  | .bl b :: r, _, h => by
    unfold asBls at h
    cases q : asBls r with
    | none => rw [q] at h; cases h
    | some ys => rw [q] at h; cases h; rw [asBls_eq q]; rfl
theorem asInts_eq : ∀ {xs : List D} {bs : List Int}, asInts xs = some bs → xs = bs.map .int
  | [], _, h => by cases h; rfl
  | .int b :: r, _, h => by
    unfold asInts at h
    cases q : asInts r with
    | none => rw [q] at h; cases h
    | some ys => rw [q] at h; cases h; rw [asInts_eq q]; rfl
/-- the end of a rule that changes nothing -/
theorem fin_now {v : V} {z : D} {Q : VK} (hr : Rel wd K mg α F H S) (hv : DV wd K mg F α v z) (q : ∀ v H' β F', Rel wd K mg (α ++ β) F' H' S → Stp α F H β F' H' → DV wd K mg F' (α ++ β) v z → Q v H') : Q v H := by
  have an : α ++ [] = α := List.append_nil α
  exact q v H [] F (by rw [an]; exact hr) Stp.refl (by rw [an]; exact hv)
theorem pd_ty {x : Str} {n : String} (hm : X.mg x = none) (hg : Gl X x := by rfl) (hv : bootBuiltins x = some (.type n) := by decide +kernel) (hn : x ≠ "__name__" := by decide) (hd : (x == ("__debug__" : Str)) = false := by decide) : PD X W (.Name x pos) (rC (.ty n)) :=
  pd_c (v := .ty n) (pe_bltn hg hm hv rfl hn hd) fun _ _ => .ty n
theorem Rel.tyX (hr : Rel wd K mg α F H S) {v : V} {d : D} {t : String} (h : DV wd K mg F α v d) (e : tyName S d = some t) : TyX K H v (.type t) := by
  have s := hr.see h
  unfold tyName at e
  generalize deref S d = dd at e s
  cases s with
  | «at» h hp =>
    cases h with
    | non => cases e; exact .base .non
    | bl b => cases e; exact .base (.bl b)
    | int i => cases e; exact .base (.int i)
    | str x => cases e; exact .base (.str x)
    | tup q t =>
      cases e
      rcases hr.sub.sqT q.1 with (q | ⟨o, q⟩) | ⟨o, its, n, q, c, _⟩
      · exact .base (.tup q)
      · exact .fTuple q
      · exact .kTuple q c
    | lst q t =>
      cases e
      rcases hr.sub.sqL q with (q | ⟨o, q⟩) | ⟨o, its, n, q, c, _⟩
      · exact .base (.lst q)
      · exact .base (.frz q)
      · exact .kList q c
    | tux q t => cases e
    | ptr _ => exact absurd rfl (hp _)
    | fn _ => cases e
    | ty _ => cases e
    | exc _ _ _ _ _ => cases e
    | dc0 _ _ => cases e
    | lam _ _ => cases e
  | dead => cases e
  | lst q t => cases e; exact .base (.lst q)
  | dct q k t =>
    cases e
    rcases q with q | ⟨o, q⟩
    · exact .base (.dK q)
    · exact .fDict q
  | dcn _ _ => cases e
theorem b_isi : BiG X (.builtin "isinstance") gIsi := by
  refine ⟨_, call_isi, fun α F H S xs ds z Q hr hv hz q => ?_⟩
  unfold gIsi at hz
  split at hz
  · rename_i d T
    cases hv with
    | cons h1 h2 =>
      cases h2 with
      | cons h2 h3 =>
        cases h3
        cases h2
        rename_i v
        cases e1 : tyName S d with
        | none => rw [e1] at hz; cases hz
        | some t =>
          rw [e1] at hz
          cases e2 : kitB t T with
          | none => rw [Option.bind_some, e2] at hz; cases hz
          | some k =>
            rw [Option.bind_some, e2] at hz
            cases hz
            exact ⟨v, .ty T, .type t, .type T, k, rfl, .ty T, hr.tyX h1 e1, kit_ty e2, fin_now hr (.bl _) q⟩
  · cases hz
theorem b_len : BiG X (.builtin "len") gLen := by
  refine ⟨_, call_len, fun α F H S xs ds z Q hr hv hz q => ?_⟩
  unfold gLen at hz
  split at hz
  · rename_i d
    cases hv with
    | cons h1 h2 =>
      cases h2
      rename_i v
      split at hz
      · rename_i y e
        split at hz
        · rename_i hl
          cases hz
          have := hr.viewS h1 e
          subst this
          exact ⟨_, y.length, rfl, ⟨hl, rfl⟩, fin_now hr (.int _) q⟩
        · cases hz
      · rename_i ys e
        cases hz
        obtain ⟨a, us, rfl, h3, h4⟩ := hr.viewT h1 e
        exact ⟨_, us.length, rfl, .inr ⟨us, h3, rfl⟩, by rw [h4.length]; exact fin_now hr (.int _) q⟩
      · rename_i ys e
        cases hz
        obtain ⟨a, us, rfl, h3, h4⟩ := hr.viewL h1 e
        exact ⟨_, us.length, rfl, .inl ⟨us, h3, rfl⟩, by rw [h4.length]; exact fin_now hr (.int _) q⟩
      · cases hz
  · cases hz
theorem b_abs : BiG X (.builtin "abs") gAbs := by
  refine ⟨_, call_abs, fun α F H S xs ds z Q hr hv hz q => ?_⟩
  unfold gAbs at hz
  split at hz
  · cases hz
    cases hv with
    | cons h1 h2 => cases h2; cases h1; exact ⟨_, rfl, fin_now hr (.int _) q⟩
  · cases hz
theorem b_all (hc : X.calm = true) : BiG X (.builtin "all") gAll := by
  refine ⟨_, cr_all hc, fun α F H S xs ds z Q hr hv hz q => ?_⟩
  unfold gAll at hz
  split at hz
  · rename_i d
    cases hv with
    | cons h1 h2 =>
      cases h2
      split at hz
      · rename_i ys e
        cases e2 : asBls ys with
        | none => rw [e2] at hz; cases hz
        | some bs =>
          rw [e2] at hz; cases hz
          obtain ⟨a, us, rfl, h3, h4⟩ := hr.viewL h1 e
          rw [asBls_eq e2] at h4
          rw [h4.bls] at h3
          exact ⟨a, bs, rfl, h3, fin_now hr (.bl _) q⟩
      · cases hz
  · cases hz
theorem b_any (hc : X.calm = true) : BiG X (.builtin "any") gAny := by
  refine ⟨_, cr_any hc, fun α F H S xs ds z Q hr hv hz q => ?_⟩
  unfold gAny at hz
  split at hz
  · rename_i d
    cases hv with
    | cons h1 h2 =>
      cases h2
      split at hz
      · rename_i ys e
        cases e2 : asBls ys with
        | none => rw [e2] at hz; cases hz
        | some bs =>
          rw [e2] at hz; cases hz
          obtain ⟨a, us, rfl, h3, h4⟩ := hr.viewL h1 e
          rw [asBls_eq e2] at h4
          rw [h4.bls] at h3
          exact ⟨a, bs, rfl, h3, fin_now hr (.bl _) q⟩
      · cases hz
  · cases hz
theorem b_sum (hc : X.calm = true) : BiG X (.builtin "sum") gSum := by
  refine ⟨_, cr_sum hc, fun α F H S xs ds z Q hr hv hz q => ?_⟩
  unfold gSum at hz
  split at hz
  · rename_i d
    cases hv with
    | cons h1 h2 =>
      cases h2
      split at hz
      · rename_i ys e
        cases e2 : asInts ys with
        | none => rw [e2] at hz; cases hz
        | some bs =>
          rw [e2] at hz; cases hz
          obtain ⟨a, us, rfl, h3, h4⟩ := hr.viewL h1 e
          rw [asInts_eq e2] at h4
          rw [h4.ints] at h3
          exact ⟨a, bs, rfl, h3, fin_now hr (.int _) q⟩
      · cases hz
  · cases hz
end
end DL
set_option Elab.async false
set_option linter.all false
set_option maxRecDepth 100000
set_option maxHeartbeats 4000000
set_option autoImplicit false
/-! Data layer, ninth part: repr, methods, texts, items, slices, lists that are made. -/
namespace DL
open PySem PySem.Spec PyProof.Rows L2
section
variable {X : Cx} {W : WX} {a b c e : Expr} {es rest : List Expr} {ra rb rc : RE} {ba bb : RB} {rs : RA} {pos p : Pos} {wd : World} {K : Fg} {mg : Str → Option Value} {α β : List Addr} {F F1 H H1 : Hp} {S : Sto}
instance (x : Str) (n : Int) : Decidable (MulOk x n) := by unfold MulOk; infer_instance
theorem g_add : OpG X (binaryOp .Add) gAdd := by
  refine ⟨_, (op_add.or op_add_str).or op_catP, fun α F H S x y d e z Q hr hx hy hz q => ?_⟩
  unfold gAdd at hz
  split at hz
  · rename_i e1 e2
    cases hz
    have := hr.viewI hx e1
    have := hr.viewI hy e2
    subst x; subst y
    exact .inl (.inl ⟨_, _, rfl, rfl, fin_now hr (.int _) q⟩)
  · rename_i e1 e2
    split at hz
    · rename_i hl
      cases hz
      have := hr.viewS hx e1
      have := hr.viewS hy e2
      subst x; subst y
      exact .inl (.inr ⟨_, _, rfl, rfl, hl, fin_now hr (.str _) q⟩)
    · cases hz
  · rename_i xs ys e1 e2
    split at hz
    · rename_i hl
      cases hz
      obtain ⟨a, us, rfl, a1, a2⟩ := hr.viewT hx e1
      obtain ⟨b, ws, rfl, b1, b2⟩ := hr.viewT hy e2
      refine .inr ⟨a, b, us, ws, rfl, rfl, a1, b1, by rw [a2.length, b2.length]; exact hl, fun en => ?_, fun _ en => ?_, fun n1 n2 p hp o ho => ?_⟩
      · subst en
        have en : xs = [] := by cases a2; rfl
        subst en
        have sy := hr.see hy
        rw [e2] at sy
        cases sy with
        | «at» h _ => exact fin_now hr h q
      · subst en
        have en : ys = [] := by cases b2; rfl
        subst en
        rw [List.append_nil] at q
        have sx := hr.see hx
        rw [e1] at sx
        cases sx with
        | «at» h _ => exact fin_now hr h q
      · obtain ⟨c1, c2, c3⟩ := hr.tup (a2.append b2) hp ho
        exact q _ _ _ _ c1 c2 c3
    · cases hz
  · cases hz
/-! ### repr -/
end
end DL
set_option Elab.async false
set_option linter.all false
set_option maxRecDepth 100000
set_option maxHeartbeats 4000000
set_option autoImplicit false
/-! Data layer, tenth part: methods, lists that are made, items, slices. -/
namespace DL
open PySem PySem.Spec PyProof.Rows L2
/-! ### what they come to -/
/-- the type by whose method it goes -/
def isTy (T : String) (S : Sto) (d : D) : Bool := match deref S d with
  | .str _ => T == "str"
  | .lst _ => T == "list"
  | .dct _ => T == "dict"
  | _ => false
/-- a method: the receiver's type is looked at ahead of the arguments -/
def rMeth (T : String) (g : Sto → D → List D → Option (D × Sto)) (a : RE) (as : RA) : RE := fun δ S => (a δ S).bind fun x S1 => if isTy T S1 x then (as δ S1).bind fun ys S2 => match g S2 x ys with
  | some (z, S3) => .ok z S3
  | none => .stuck else .stuck
def mAppend : Sto → D → List D → Option (D × Sto) := fun S d ds => match d, ds with
  | .ptr k, [y] => (match S[k]? with
    | some (.lst xs) => if xs.length < sizeLine then some (.non, S.set k (.lst (xs ++ [y]))) else none
    | _ => none)
  | _, _ => none
/-- an item of a list, a tuple, a text -/
def gIx : Sto → D → D → Option D := fun S d e => match deref S d, e with
  | .lst xs, .int i => atI xs i
  | .tup xs, .int i => atI xs i
  | .str z, .int i => if z.length ≤ sizeLine then (atI z.cps.toList i).map fun c => .str ⟨#[c]⟩ else none
  | _, _ => none
/-- a part: from, to -/
def cutD {A : Type} (xs : List A) (lo hi : Option Int) : List A := (xs.drop (HT.sIx xs.length 0 lo)).take (HT.sIx xs.length xs.length hi - HT.sIx xs.length 0 lo)
abbrev RO := Sl → Sto → Res (Option Int)
def oNone : RO := fun _ S => .ok none S
def oSome (a : RE) : RO := fun δ S => (a δ S).bind fun x S1 => match x with
  | .int i => .ok (some i) S1
  | _ => .stuck
def rCut (a : RE) (l h : RO) : RE := fun δ S => (a δ S).bind fun x S1 => (l δ S1).bind fun i S2 => (h δ S2).bind fun j S3 => match deref S3 x with
  | .lst xs => .ok (.lst (cutD xs i j)) S3
  | .tup xs => .ok (.tup (cutD xs i j)) S3
  | .str z => if z.length ≤ sizeLine then .ok (.str (cutS z i j)) S3 else .stuck
  | _ => .stuck
section
variable {X : Cx} {W : WX} {a b c e : Expr} {es rest : List Expr} {ra rb rc : RE} {ba bb : RB} {rs : RA} {pos p : Pos} {wd : World} {K : Fg} {mg : Str → Option Value} {α β : List Addr} {F F1 H H1 : Hp} {S : Sto}
theorem isTy_ok (hr : Rel wd K mg α F H S) {v : V} {d : D} {T : String} (h : DV wd K mg F α v d) (e : isTy T S d = true) (hT : T ≠ "dict") : tyV K T v H := by
  have s := hr.see h
  unfold isTy at e
  generalize deref S d = dd at e s
  cases s with
  | «at» h hp =>
    cases h with
    | str x => exact beq_iff_eq.mp e
    | lst q t => exact .inl ⟨beq_iff_eq.mp e, _, hr.sub.sqL q⟩
    | ptr _ => exact absurd rfl (hp _)
    | _ => cases e
  | dead => cases e
  | lst q t => exact .inl ⟨beq_iff_eq.mp e, _, SqL.of q⟩
  | dct q k t => exact absurd (beq_iff_eq.mp e) hT
  | dcn q t => cases e
def OkM (X : Cx) (r : V → List V → Hp → VK → Prop) (g : Sto → D → List D → Option (D × Sto)) : Prop := ∀ α F H S (x : V) (xs : List V) (d : D) (ds : List D) (z : D) (S' : Sto) (Q : VK), Rel X.w X.K X.mg α F H S → DV X.w X.K X.mg F α x d → DVs X.w X.K X.mg F α xs ds → g S d ds = some (z, S') →
  (∀ v H' β F', Rel X.w X.K X.mg (α ++ β) F' H' S' → Stp α F H β F' H' → DV X.w X.K X.mg F' (α ++ β) v z → Q v H') → r x xs H Q
structure MdG (X : Cx) (id : String) (g : Sto → D → List D → Option (D × Sto)) : Prop where
  ex : ∃ r, MtR X id r ∧ OkM X r g
theorem pd_meth {o : Expr} {name : Str} {T id : String} {g : Sto → D → List D → Option (D × Sto)} {apos cpos : Pos} {ro : RE} (hm : MdG X id g) (pa : PlainAttrs T) (slot : Slot T name id) (hty : typeOf (.builtin id) = pure (.type "method_descriptor")) (ho : PD X W o ro) (ha : PDs X W (e :: es) rs) (hT : T ≠ "dict" := by decide)
    (hbase : attributeBase o name X.env (eval o X.env) = eval o X.env := by rfl)
    (hfew : ((backTo cpos (starEach (e :: es) X.env)).all (fun x => !x.1) && (backToKw cpos (keywordEach [] X.env)).all (fun x => x.1.isSome) && decide ((e :: es).length + ([] : List Keyword).length + (if ([] : List Keyword).isEmpty then 0 else 1) < 30)) = true := by rfl)
    (hline : (apos.endLine == cpos.line) = true := by rfl) (hs : starEach (e :: es) X.env = (false, eval e X.env) :: starEach es X.env := by rfl) (hplain : (backTo cpos (starEach es X.env)).any (·.1) = false := by rfl) :
    PD X W (.Call (.Attribute o name apos) (e :: es) [] cpos) (rMeth T g ro rs) := by
  obtain ⟨r, h1, h2⟩ := hm.ex
  obtain ⟨to, po, so⟩ := ho.ex
  obtain ⟨t, pt, st⟩ := ha.ex
  refine ⟨_, pe_bm pa slot hty h1 po pt hbase hfew hline hs hplain, fun α F σ H δ S Q hr hs h => ?_⟩
  refine so α F σ H δ S _ hr hs (wp.bind h fun d S1 _ x H1 β F1 r1 q1 v1 h1 => ?_)
  split at h1
  · rename_i ety
    refine ⟨isTy_ok r1 v1 ety hT, ?_⟩
    refine st (α ++ β) F1 σ H1 δ S1 _ r1 (hs.mono q1.sub) (wp.bind h1 fun ds S2 _ xs H2 γ F2 r2 q2 v2 h3 => ?_)
    cases eg : g S2 d ds with
    | none => rw [eg] at h3; exact h3.elim
    | some zs =>
      obtain ⟨z, S3⟩ := zs
      rw [eg] at h3
      exact h2 _ F2 H2 S2 x xs d ds z S3 Q r2 (v1.mono q2.sub) v2 eg fun v H' ε F' r3 s3 v3 => h3 v H' ε F' r3 s3 v3
  · exact h1.elim
theorem m_append : MdG X "list.append" mAppend := by
  refine ⟨rAppend, mt_append, fun α F H S x xs d ds z S' Q hr hx hv hz q => ?_⟩
  unfold mAppend at hz
  split at hz
  · rename_i k y
    split at hz
    · rename_i zs e
      split at hz
      · rename_i hl
        cases hz
        cases hx with
        | ptr ha =>
          obtain ⟨o, _⟩ := hr.own k _ _ ha e
          obtain ⟨us, o1, o2⟩ := o
          cases hv with
          | cons h1 h2 =>
            cases h2
            obtain ⟨a1, a2⟩ := hr.setO (o := .lst (us ++ [_])) (d := .lst (zs ++ [y])) ha e rfl ⟨_, upd_same, o2.append (.cons h1 .nil)⟩
            exact ⟨_, us, _, rfl, rfl, o1, by rw [o2.length]; exact hl, q _ _ _ _ a1 a2 .non⟩
      · cases hz
    · cases hz
  · cases hz
/-! ### items -/
theorem atI_DV {xs : List D} {us : List V} {i : Int} {d : D} (h : DVs wd K mg F α us xs) (e : atI xs i = some d) : ∃ v, atI us i = some v ∧ DV wd K mg F α v d := by
  unfold atI at e ⊢
  rw [h.length]
  cases q : ixN xs.length i with
  | none => rw [q] at e; cases e
  | some j => rw [q] at e; exact h.get e
theorem pd_ix (ha : PD X W a ra) (hb : PD X W b rb) (hs : PlainIx b := by intro _ _; rfl) : PD X W (.Subscript a b pos) (rBin gIx ra rb) := by
  obtain ⟨ta, pa, sa⟩ := ha.ex
  obtain ⟨tb, pb, sb⟩ := hb.ex
  refine ⟨_, pe_ix ix_seq pa pb hs, sa.bin sb fun α F H S x y d e z Q hr hx hy hz q => ?_⟩
  unfold gIx at hz
  split at hz
  · rename_i xs i e1
    cases hy
    obtain ⟨l, us, rfl, a1, a2⟩ := hr.viewL hx e1
    obtain ⟨v, e3, e4⟩ := atI_DV a2 hz
    exact .inl ⟨l, us, i, v, rfl, rfl, a1, e3, fin_now hr e4 q⟩
  · rename_i xs i e1
    cases hy
    obtain ⟨l, us, rfl, a1, a2⟩ := hr.viewT hx e1
    obtain ⟨v, e3, e4⟩ := atI_DV a2 hz
    exact .inr (.inl ⟨l, us, i, v, rfl, rfl, a1, e3, fin_now hr e4 q⟩)
  · rename_i zz i e1
    split at hz
    · rename_i hl
      cases hy
      have := hr.viewS hx e1
      subst this
      cases e3 : atI zz.cps.toList i with
      | none => rw [e3] at hz; cases hz
      | some c => rw [e3] at hz; cases hz; exact .inr (.inr ⟨zz, i, c, rfl, rfl, hl, e3, fin_now hr (.str _) q⟩)
    · cases hz
  · cases hz
end
end DL
set_option Elab.async false
set_option linter.all false
set_option maxRecDepth 100000
set_option maxHeartbeats 4000000
set_option autoImplicit false
/-! Data layer, eleventh part: slices, what is walked, targets, lists that are made, dicts. -/
namespace DL
open PySem PySem.Spec PyProof.Rows L2
def gIn1 : Sto → D → D → Option D := fun S d e => match d, deref S e with
  | .str x, .str z => if x.length = 1 then some (.bl (decide (x.cps.getD 0 0 ∈ z.cps.toList))) else none
  | _, _ => none
def flatD : D → Option V
  | .non => some .non
  | .bl b => some (.bl b)
  | .int i => some (.int i)
  | .str x => some (.str x)
  | _ => none
def flatDs : List D → Option (List V)
  | [] => some []
  | d :: r => match flatD d, flatDs r with
    | some v, some vs => some (v :: vs)
    | _, _ => none
/-- in a list or tuple of flat things -/
def gInQ : Sto → D → D → Option D := fun S d e => match flatD d, deref S e with
  | some x, .lst ys => (flatDs ys).map fun vs => .bl (inV x vs)
  | some x, .tup ys => (flatDs ys).map fun vs => .bl (inV x vs)
  | _, _ => none
def rSeq (a : RE) : RA := fun δ S => (a δ S).bind fun x S1 => match x with
  | .lst ds => .ok ds S1
  | .tup ds => .ok ds S1
  | .str z => .ok (z.cps.toList.map fun c => .str ⟨#[c]⟩) S1
  | _ => .stuck
def rangeD (lo hi : Int) : List D := (List.range (hi - lo).toNat).map fun (i : Nat) => .int (lo + i)
def rRange (a : RA) : RA := fun δ S => (a δ S).bind fun xs S1 => match xs with
  | [.int j] => if -(2 ^ 62) ≤ j ∧ j < 2 ^ 62 then .ok (rangeD 0 j) S1 else .stuck
  | [.int i, .int j] => if -(2 ^ 62) ≤ i ∧ i < 2 ^ 62 ∧ -(2 ^ 62) ≤ j ∧ j < 2 ^ 62 then .ok (rangeD i j) S1 else .stuck
  | _ => .stuck
def zipD : List D → List D → List D
  | a :: as, b :: bs => .tux [a, b] :: zipD as bs
  | _, _ => []
/-- a, b = x, y -/
def sPar (i j : Nat) (a : RA) : RS := fun δ S => (a δ S).out δ fun xs S1 => match xs with
  | [x, y] => if i < δ.length ∧ j < δ.length then .nx ((δ.set i (some x)).set j (some y)) S1 else .stuck
  | _ => .stuck
section
variable {X : Cx} {W : WX} {a b c e tg : Expr} {es rest : List Expr} {ra rb rc : RE} {ba bb : RB} {rs : RA} {pos p : Pos} {wd : World} {K : Fg} {mg : Str → Option Value} {α β : List Addr} {F F1 H H1 : Hp} {S : Sto}
/-! ### slices -/
def SndO (wd : World) (K : Fg) (mg : Str → Option Value) (W : WX) (t : TO) (r : RO) : Prop := ∀ α F σ H δ S (Q : Option Int → Hp → Prop), Rel wd K mg α F H S → Slots wd K mg F α σ δ → wp wd K mg α F H (fun _ _ (b a : Option Int) => b = a) (r δ S) Q (fun c d H' => W c d σ H') → t σ H Q
structure POd (X : Cx) (W : WX) (e : Option Expr) (r : RO) : Prop where
  ex : ∃ t, PO X e t ∧ SndO X.w X.K X.mg W t r
theorem pod_none : POd X W none oNone := ⟨_, po_none, fun α F σ H δ S Q hr hs h => h.now hr rfl⟩
theorem pod_some (ha : PD X W a ra) : POd X W (some a) (oSome ra) := by
  obtain ⟨t, p1, s1⟩ := ha.ex
  refine ⟨_, po_some p1, fun α F σ H δ S Q hr hs h => ?_⟩
  refine s1 α F σ H δ S _ hr hs (wp.bind h fun d S1 _ x H1 β F1 r1 q1 v1 h1 => ?_)
  cases d with
  | int i => cases v1; exact ⟨i, rfl, h1.now r1 rfl⟩
  | _ => exact h1.elim
theorem cut_DVs {xs : List D} {us : List V} (lo hi : Option Int) (h : DVs wd K mg F α us xs) : DVs wd K mg F α (cutV us lo hi) (cutD xs lo hi) := by
  unfold cutV cutD
  rw [h.length]
  exact (h.drop _).take _
theorem pd_cut {lo hi : Option Expr} {p2 : Pos} {ol oh : RO} (ha : PD X W a ra) (hl : POd X W lo ol) (hh : POd X W hi oh) : PD X W (.Subscript a (.Slice lo hi none p2) pos) (rCut ra ol oh) := by
  obtain ⟨ta, pa, sa⟩ := ha.ex
  obtain ⟨tl, pl, sl⟩ := hl.ex
  obtain ⟨th, ph, sh⟩ := hh.ex
  refine ⟨_, pe_slice ((sl_list.or sl_tupP).or sl_str) pa pl ph, fun α F σ H δ S Q hr hs h => ?_⟩
  refine sa α F σ H δ S _ hr hs (wp.bind h fun d S1 _ x H1 β F1 r1 q1 v1 h1 => ?_)
  refine sl (α ++ β) F1 σ H1 δ S1 _ r1 (hs.mono q1.sub) (wp.bind h1 fun i S2 _ i' H2 γ F2 r2 q2 v2 h2 => ?_)
  have v2 : i' = i := v2
  subst v2
  refine sh (α ++ β ++ γ) F2 σ H2 δ S2 _ r2 ((hs.mono q1.sub).mono q2.sub) (wp.bind h2 fun j S3 _ j' H3 ε F3 r3 q3 v3 h3 => ?_)
  have v3 : j' = j := v3
  subst v3
  have vx := (v1.mono (β := γ) q2.sub).mono (β := ε) q3.sub
  split at h3
  · rename_i xs e1
    obtain ⟨l, us, rfl, a1, a2⟩ := r3.viewL vx e1
    refine .inl (.inl ⟨l, us, rfl, a1, fun p hp => ?_⟩)
    obtain ⟨c1, c2, c3⟩ := r3.lst (cut_DVs _ _ a2) hp
    exact h3 _ _ _ _ c1 c2 c3
  · rename_i xs e1
    obtain ⟨l, us, rfl, a1, a2⟩ := r3.viewT vx e1
    refine .inl (.inr ⟨l, us, rfl, a1, fun hw => ?_, fun _ p hp o ho => ?_⟩)
    · have ew : cutD xs i' j' = xs := by
        unfold cutD
        rw [a2.length] at hw
        rw [hw.1, hw.2, List.drop_zero, Nat.sub_zero, List.take_length]
      rw [ew] at h3
      have sx := r3.see vx
      rw [e1] at sx
      cases sx with
      | «at» h _ => exact h3.now r3 h
    · obtain ⟨c1, c2, c3⟩ := r3.tup (cut_DVs _ _ a2) hp ho
      exact h3 _ _ _ _ c1 c2 c3
  · rename_i zz e1
    split at h3
    · rename_i hl
      have := r3.viewS vx e1
      subst this
      exact .inr ⟨zz, rfl, hl, h3.now r3 (.str _)⟩
    · exact h3.elim
  · exact h3.elim
/-! ### in -/
theorem len1_eq {x : Str} (h : x.length = 1) : x = ⟨#[x.cps.getD 0 0]⟩ := by
  obtain ⟨⟨l⟩⟩ := x
  match l, h with
  | [c], _ => rfl
theorem g_in1 : OpG X (compareOp .In) gIn1 := by
  refine ⟨_, op_in_sign, fun α F H S x y d e z Q hr hx hy hz q => ?_⟩
  unfold gIn1 at hz
  split at hz
  · rename_i x zz e1
    split at hz
    · rename_i hl
      cases hz; cases hx
      have := hr.viewS hy e1
      subst this
      exact ⟨_, zz, by rw [← len1_eq hl], rfl, fin_now hr (.bl _) q⟩
    · cases hz
  · cases hz
theorem flatD_eq {d : D} {v u : V} (h : flatD d = some v) (hv : DV wd K mg F α u d) : u = v ∧ flatV v = true := by
  cases hv <;> cases h <;> exact ⟨rfl, rfl⟩
theorem flatDs_eq : ∀ {ds : List D} {vs us : List V}, flatDs ds = some vs → DVs wd K mg F α us ds → us = vs ∧ vs.all flatV = true
  | [], _, _, h, hv => by cases h; cases hv; exact ⟨rfl, rfl⟩
  | d :: r, _, _, h, hv => by
    unfold flatDs at h
    split at h
    · rename_i e1 e2
      cases h
      cases hv with
      | cons h1 h2 =>
        obtain ⟨a1, a2⟩ := flatD_eq e1 h1
        obtain ⟨b1, b2⟩ := flatDs_eq e2 h2
        subst a1; subst b1
        exact ⟨rfl, by rw [List.all_cons, a2, b2]; rfl⟩
    · cases h
theorem inQ_ok {S : Sto} {d e : D} {k : Bool} {x y : V} (hr : Rel wd K mg α F H S) (hx : DV wd K mg F α x d) (hy : DV wd K mg F α y e) (h : gInQ S d e = some (.bl k)) : ∃ p xs, y = .ref p ∧ (SqL K H p xs ∨ SqT K H p xs) ∧ flatV x = true ∧ xs.all flatV = true ∧ k = inV x xs := by
  unfold gInQ at h
  split at h
  · rename_i v ys e1 e2
    cases e3 : flatDs ys with
    | none => rw [e3] at h; cases h
    | some vs =>
      rw [e3] at h; cases h
      obtain ⟨a1, a2⟩ := flatD_eq e1 hx
      obtain ⟨l, us, rfl, b1, b2⟩ := hr.viewL hy e2
      obtain ⟨c1, c2⟩ := flatDs_eq e3 b2
      subst a1; subst c1
      exact ⟨l, us, rfl, .inl b1, a2, c2, rfl⟩
  · rename_i v ys e1 e2
    cases e3 : flatDs ys with
    | none => rw [e3] at h; cases h
    | some vs =>
      rw [e3] at h; cases h
      obtain ⟨a1, a2⟩ := flatD_eq e1 hx
      obtain ⟨l, us, rfl, b1, b2⟩ := hr.viewT hy e2
      obtain ⟨c1, c2⟩ := flatDs_eq e3 b2
      subst a1; subst c1
      exact ⟨l, us, rfl, .inr b1, a2, c2, rfl⟩
  · cases h
theorem inQ_bl {S : Sto} {d e z : D} (h : gInQ S d e = some z) : ∃ k, z = .bl k := by
  unfold gInQ at h
  split at h
  · rename_i v ys _ _
    cases e3 : flatDs ys with
    | none => rw [e3] at h; cases h
    | some vs => rw [e3] at h; cases h; exact ⟨_, rfl⟩
  · rename_i v ys _ _
    cases e3 : flatDs ys with
    | none => rw [e3] at h; cases h
    | some vs => rw [e3] at h; cases h; exact ⟨_, rfl⟩
  · cases h
theorem g_inQ : OpG X (compareOp .In) gInQ := by
  refine ⟨_, op_in_seq, fun α F H S x y d e z Q hr hx hy hz q => ?_⟩
  obtain ⟨k, rfl⟩ := inQ_bl hz
  obtain ⟨l, us, rfl, a1, a2, a3, rfl⟩ := inQ_ok hr hx hy hz
  exact ⟨l, us, rfl, a1, a2, a3, fin_now hr (.bl _) q⟩
/-! ### what is walked -/
theorem pi_or {wi wi' : TI} (h : PI X tg e wi) (h' : PI X tg e wi') : PI X tg e (fun σ H R => wi σ H R ∨ wi' σ H R) :=
  ⟨fun pins s σ H R I q => q.elim (h.run pins s σ H R I) (h'.run pins s σ H R I)⟩
theorem it_list {l : Addr} {us : List V} {ds : List D} (h : SqL K F l us) (hv : DVs wd K mg F α us ds) : ItOk wd K mg F α (Itl K l) ds where
  go := fun F' H' i a b hi => by
    obtain ⟨v, e1, _⟩ := hv.get (List.getElem?_eq_getElem hi)
    exact ⟨us, v, (a.trans b).sqL h, e1⟩
  stop := fun F' H' a b => ⟨us, (a.trans b).sqL h, by rw [hv.length]; exact Nat.le_refl _⟩
  yld := fun F' H' H2 i x d a b hd ⟨e1, e2⟩ => by
    refine .inl ⟨e1, ?_⟩
    have e3 := e2 us ((a.trans b).sqL h)
    obtain ⟨v, e4, e5⟩ := hv.get hd
    rw [e3] at e4; cases e4
    have := e5.mono (β := []) a
    rw [List.append_nil] at this; exact this
theorem it_tup {l : Addr} {us : List V} {ds : List D} (h : SqT K F l us) (hv : DVs wd K mg F α us ds) : ItOk wd K mg F α (Itt K l) ds where
  go := fun F' H' i a b hi => by
    obtain ⟨v, e1, _⟩ := hv.get (List.getElem?_eq_getElem hi)
    exact ⟨us, v, (a.trans b).sqT h, e1⟩
  stop := fun F' H' a b => ⟨us, (a.trans b).sqT h, by rw [hv.length]; exact Nat.le_refl _⟩
  yld := fun F' H' H2 i x d a b hd ⟨e1, e2⟩ => by
    refine .inl ⟨e1, ?_⟩
    have e3 := e2 us ((a.trans b).sqT h)
    obtain ⟨v, e4, e5⟩ := hv.get hd
    rw [e3] at e4; cases e4
    have := e5.mono (β := []) a
    rw [List.append_nil] at this; exact this
theorem it_str (z : Str) : ItOk wd K mg F α (Its z) (z.cps.toList.map fun c => .str ⟨#[c]⟩) where
  go := fun F' H' i a b hi => by show i < z.cps.size; simpa using hi
  stop := fun F' H' a b => by show z.cps.size ≤ _; simp
  yld := fun F' H' H2 i x d a b hd ⟨e1, c, e2, e3⟩ => by
    subst e3
    refine .inl ⟨e1, ?_⟩
    rw [List.getElem?_map, Array.getElem?_toList, e2] at hd
    cases hd
    exact .str _
theorem it_range (lo hi : Int) : ItOk wd K mg F α (Itr lo (hi - lo).toNat) (rangeD lo hi) where
  go := fun F' H' i a b h => by show i < (hi - lo).toNat; simpa [rangeD] using h
  stop := fun F' H' a b => by show _ ≤ (rangeD lo hi).length; simp [rangeD]
  yld := fun F' H' H2 i x d a b hd ⟨e1, e2⟩ => by
    subst e2
    refine .inl ⟨e1, ?_⟩
    unfold rangeD at hd
    rw [List.getElem?_map] at hd
    cases q : (List.range (hi - lo).toNat)[i]? with
    | none => rw [q] at hd; cases hd
    | some j =>
      rw [q] at hd; cases hd
      have : j = i := by
        obtain ⟨_, e⟩ := List.getElem?_eq_some_iff.mp q
        simpa using e.symm
      subst this
      exact .int _
theorem pid_seq (ha : PD X W e ra) : PId X W tg e (rSeq ra) := by
  obtain ⟨t, p1, s1⟩ := ha.ex
  refine ⟨_, pi_or (pi_or (pi_list p1) (pi_tup p1)) (pi_str p1), fun α F σ H δ S Q hr hs h => ?_⟩
  unfold rSeq at h
  cases q : ra δ S with
  | err c fs S1 =>
    rw [q] at h
    refine .inl (.inl (s1 α F σ H δ S _ hr hs ?_))
    rw [q]; exact h
  | stuck => rw [q] at h; exact h.elim
  | ok d S1 =>
    rw [q] at h
    cases d with
    | lst ds =>
      refine .inl (.inl (s1 α F σ H δ S _ hr hs ?_))
      rw [q]
      intro v H' β F' r1 st v1
      cases v1 with
      | lst h1 h2 => exact ⟨_, rfl, ⟨_, r1.sub.sqL h1⟩, h _ H' β F' r1 st (it_list h1 h2)⟩
    | tup ds =>
      refine .inl (.inr (s1 α F σ H δ S _ hr hs ?_))
      rw [q]
      intro v H' β F' r1 st v1
      cases v1 with
      | tup h1 h2 => exact ⟨_, rfl, ⟨_, r1.sub.sqT h1.1⟩, h _ H' β F' r1 st (it_tup h1.1 h2)⟩
    | str z =>
      refine .inr (s1 α F σ H δ S _ hr hs ?_)
      rw [q]
      intro v H' β F' r1 st v1
      cases v1
      exact ⟨z, rfl, h _ H' β F' r1 st (it_str z)⟩
    | _ => exact (show False from h).elim
theorem pid_range1 (hm : X.mg "range" = none) (ha : PDs X W [a] rs) (hg : Gl X "range" := by rfl) (hs : starEach [a] X.env = [(false, eval a X.env)] := by rfl) : PId X W tg (.Call (.Name "range" p) [a] [] pos) (rRange rs) := by
  obtain ⟨t, p1, s1⟩ := ha.ex
  refine ⟨_, pi_range1 hg hm p1 hs, fun α F σ H δ S Q hr hs h => ?_⟩
  refine s1 α F σ H δ S _ hr hs (wp.bind h fun ds S1 e1 xs H1 β F1 r1 q1 v1 h1 => ?_)
  have hl := ha.len _ _ _ _ e1
  match ds, hl with
  | [d], _ =>
    cases v1 with
    | cons v1 vn =>
      cases vn
      cases d with
      | int j =>
        cases v1
        dsimp only at h1
        split at h1
        · rename_i hc
          refine ⟨j, rfl, hc.1, hc.2, ?_⟩
          have := it_range (wd := X.w) (K := X.K) (mg := X.mg) (F := F1) (α := α ++ β) 0 j
          rw [Int.sub_zero] at this
          exact h1.now r1 this
        · exact h1.elim
      | _ => exact h1.elim
theorem zipD_get : ∀ {xs ys : List D} {i : Nat} {d : D}, (zipD xs ys)[i]? = some d → ∃ x y, xs[i]? = some x ∧ ys[i]? = some y ∧ d = .tux [x, y]
  | a :: as, b :: bs, 0, d, h => by simp [zipD] at h; exact ⟨a, b, rfl, rfl, h.symm⟩
  | a :: as, b :: bs, i + 1, d, h => by
    obtain ⟨x, y, h1, h2, h3⟩ := zipD_get (xs := as) (ys := bs) (i := i) (d := d) (by simpa [zipD] using h)
    exact ⟨x, y, by simpa using h1, by simpa using h2, h3⟩
  | [], _, _, _, h => by simp [zipD] at h
  | _ :: _, [], _, _, h => by simp [zipD] at h
theorem zipD_len : ∀ xs ys : List D, (zipD xs ys).length = min xs.length ys.length
  | a :: as, b :: bs => by rw [zipD, List.length_cons, zipD_len, List.length_cons, List.length_cons]; omega
  | [], _ => by simp [zipD]
  | _ :: _, [] => by simp [zipD]
theorem it_zip {l m : Addr} {us ws : List V} {ds es : List D} (h : SqL K F l us) (hv : DVs wd K mg F α us ds) (g : SqL K F m ws) (gv : DVs wd K mg F α ws es) : ItOk wd K mg F α (Itz K l m) (zipD ds es) where
  go := fun F' H' i a b hi => by
    rw [zipD_len] at hi
    obtain ⟨v, e1, _⟩ := hv.get (List.getElem?_eq_getElem (by omega : i < ds.length))
    obtain ⟨u, e2, _⟩ := gv.get (List.getElem?_eq_getElem (by omega : i < es.length))
    exact ⟨us, ws, v, u, (a.trans b).sqL h, (a.trans b).sqL g, e1, e2⟩
  stop := fun F' H' a b => ⟨us, ws, (a.trans b).sqL h, (a.trans b).sqL g, by rw [hv.length, gv.length, zipD_len]; omega⟩
  yld := fun F' H' H2 i x d a b hd ⟨T, y, y2, e1, e2, e3, e4, e5⟩ => by
    have f1 := e4 us ((a.trans b).sqL h)
    have f2 := e5 ws ((a.trans b).sqL g)
    obtain ⟨p, q, e6, e7, rfl⟩ := zipD_get hd
    obtain ⟨v, e8, e9⟩ := hv.get e6
    rw [f1] at e8; cases e8
    obtain ⟨v2, e10, e11⟩ := gv.get e7
    rw [f2] at e10; cases e10
    subst e1
    have nF : F' T = none := by
      cases z : F' T with
      | none => rfl
      | some u => rw [b _ _ z] at e2; cases e2
    have sb := a.trans (Sub.new (o := .tup [y, y2]) nF)
    refine .inr ⟨T, _, e2, e3, .tux (SqT.of upd_same) (.cons ?_ (.cons ?_ .nil))⟩
    · have := e9.mono (β := []) sb
      rw [List.append_nil] at this; exact this
    · have := e11.mono (β := []) sb
      rw [List.append_nil] at this; exact this
/-! ### targets from a list, two names at once -/
theorem psd_par {i j : Nat} {x y : Str} {px py pt : Pos} {kt k2 : Nat} {pt2 : Pos} (hc : X.calm = true) (hN : X.N.Nodup) (ha : PDs X W [a, b] rs) (hij : i ≠ j := by decide) (hi : X.N[i]? = some x := by rfl) (hj : X.N[j]? = some y := by rfl) (hx : X.env.scope.names.lookup x = some .local := by rfl) (hy : X.env.scope.names.lookup y = some .local := by rfl)
    (hw : swappedStores [.Tuple [.Name x px, .Name y py] kt pt] (.Tuple [a, b] k2 pt2) X.env = pure (some [x, y]) := by rfl) : PSd X W (.Assign [.Tuple [.Name x px, .Name y py] kt pt] (.Tuple [a, b] k2 pt2) pos) (sPar i j rs) := by
  obtain ⟨t, p1, s1⟩ := ha.ex
  refine ⟨_, ps_par hc hN hi hj hij hx hy p1 hw, fun α F σ H δ S E hr hs h => ?_⟩
  refine s1 α F σ H δ S _ hr hs (wpS.out h hs fun ds S1 e1 xs H1 β F1 r1 q1 v1 h1 => ?_)
  have hl := ha.len _ _ _ _ e1
  match ds, hl with
  | [d, d'], _ =>
    cases v1 with
    | cons v1 vn =>
      cases vn with
      | cons v2 vn =>
        cases vn
        dsimp only at h1
        split at h1
        · exact ⟨_, _, rfl, h1.nx r1 (((hs.mono q1.sub).set v1).set v2)⟩
        · exact h1.elim
end
end DL
set_option Elab.async false
set_option linter.all false
set_option maxRecDepth 100000
set_option maxHeartbeats 4000000
set_option autoImplicit false
/-! Data layer, twelfth part: lists that are made, dicts. -/
namespace DL
open PySem PySem.Spec PyProof.Rows L2
def keyEq : D → D → Bool
  | .int i, .int j => i == j
  | .str x, .str y => decide (x = y)
  | _, _ => false
def lookD : List (D × D) → D → Option D
  | [], _ => none
  | (k, v) :: r, q => if keyEq k q then some v else lookD r q
def replD : List (D × D) → D → D → List (D × D)
  | [], _, _ => []
  | (k, v) :: r, q, y => if keyEq k q then (k, y) :: replD r q y else (k, v) :: replD r q y
def putD (kvs : List (D × D)) (q y : D) : List (D × D) := if (lookD kvs q).isSome then replD kvs q y else kvs ++ [(q, y)]
def mergeD (kvs more : List (D × D)) : List (D × D) := more.foldl (fun acc kv => putD acc kv.1 kv.2) kvs
def isKey : D → Bool
  | .int _ => true
  | .str _ => true
  | _ => false
/-- pairs of a display, from the left -/
def rPairs : List (RE × RE) → Sl → Sto → Res (List (D × D))
  | [], _, S => .ok [] S
  | (k, v) :: r, δ, S => (k δ S).bind fun x S1 => (v δ S1).bind fun y S2 => (rPairs r δ S2).bind fun ps S3 => .ok ((x, y) :: ps) S3
def rDisp (ps : List (RE × RE)) : RE := fun δ S => (rPairs ps δ S).bind fun kvs S1 => if kvs.all (fun p => isKey p.1) && decide (kvs.length ≤ 15) then .ok (.dct (mergeD [] kvs)) S1 else .stuck
/-- xs[i] = v -/
def sSetL (d k v : RE) : RS := fun δ S => (v δ S).out δ fun z S1 => (d δ S1).out δ fun x S2 => (k δ S2).out δ fun y S3 => match x, y with
  | .ptr n, .int i => (match S3[n]? with
    | some (.lst xs) => (match ixN xs.length i with
      | some j => .nx δ (S3.set n (.lst (xs.set j z)))
      | none => .stuck)
    | _ => .stuck)
  | _, _ => .stuck
def gTuple : Sto → List D → Option D := fun S ds => match ds with
  | [d] => (match deref S d with
    | .lst xs => some (.tup xs)
    | .tup xs => some (.tup xs)
    | _ => none)
  | _ => none
section
variable {X : Cx} {W : WX} {a b c e tg : Expr} {es rest : List Expr} {ra rb rc : RE} {ba bb : RB} {rs : RA} {pos p : Pos} {wd : World} {K : Fg} {mg : Str → Option Value} {α β : List Addr} {F F1 H H1 : Hp} {S : Sto}
/-! ### made by operators, calls, methods -/
theorem wpF.now {d : D} {Q : VK} {W : XK} {ad : Addr} {o : HO} (h : wpF wd K mg α F H (.ok d S) Q W) (hr : Rel wd K mg α F H S) (hp : H ad = none) (ho : Own wd K mg F α (upd H ad o) ad d) (hd : d.open = true) : Q (.ref ad) (upd H ad o) := h.lay hr hp ho hd
/-- by a list that is laid at a new place -/
def Lays (H : Hp) (xs : List V) (Q : VK) : Prop := ∀ p, H p = none → Q (.ref p) (upd H p (.lst xs))
theorem pf_bin {op : Operator} {g : Sto → D → D → Option D} {r : R2} (ho : OpR X (binaryOp op) r) (hg : ∀ α F H S x y d e z Q, Rel X.w X.K X.mg α F H S → DV X.w X.K X.mg F α x d → DV X.w X.K X.mg F α y e → g S d e = some z → ∃ ds xs, z = .lst ds ∧ DVs X.w X.K X.mg F α xs ds ∧ (Lays H xs Q → r x y H Q)) (ha : PD X W a ra) (hb : PD X W b rb) :
    PF X W (.BinOp a op b pos) (rBin g ra rb) := by
  obtain ⟨ta, pa, sa⟩ := ha.ex
  obtain ⟨tb, pb, sb⟩ := hb.ex
  refine ⟨_, pe_op ho pa pb, fun α F σ H δ S Q hr hs h => ?_⟩
  refine sa α F σ H δ S _ hr hs (wpF.bind h fun d S1 _ x H1 β F1 r1 s1 v1 h1 => ?_)
  refine sb (α ++ β) F1 σ H1 δ S1 _ r1 (hs.mono s1.sub) (wpF.bind h1 fun e S2 _ y H2 γ F2 r2 s2 v2 h2 => ?_)
  cases eg : g S2 d e with
  | none => rw [eg] at h2; exact h2.elim
  | some z =>
    rw [eg] at h2
    obtain ⟨ds, xs, rfl, e1, e2⟩ := hg _ F2 H2 S2 x y d e z Q r2 (v1.mono s2.sub) v2 eg
    exact e2 fun p hp => wpF.lay h2 r2 hp ⟨xs, upd_same, e1⟩ rfl
theorem op_catR : OpR X (binaryOp .Add) (fun x y H Q => ∃ l m xs zs, x = .ref l ∧ y = .ref m ∧ SqL X.K H l xs ∧ SqL X.K H m zs ∧ xs.length + zs.length ≤ sizeLine ∧ Lays H (xs ++ zs) Q) := by
  intro pins s σ H x y v u Q I rx ry h
  obtain ⟨l, m, xs, zs, rfl, rfl, h1, h2, hz, q⟩ := h
  cases rx; cases ry
  obtain ⟨its, r, ⟨o1, n1, g1, c1, _, w1⟩, _⟩ := I.list h1
  obtain ⟨its2, r2, ⟨o2, n2, g2, c2, _, w2⟩, _⟩ := I.list h2
  obtain ⟨k1, dd1, dt1, sl1⟩ := o1
  obtain ⟨k2, dd2, dt2, sl2⟩ := o2
  simp only at c1 c2 w1 w2
  subst c1 c2 w1 w2
  have l1 := r.length
  have l2 := r2.length
  have sz : its.toArray.size + its2.toArray.size ≤ sizeLine := by rw [List.size_toArray, List.size_toArray]; omega
  refine concat_meets ⟨_, g1, rfl⟩ ⟨_, g2, rfl⟩ noFill_list_add seq_list_add PySem.F.slot_list_add PySem.F.entry_list_add (PySem.F.args_list_add_2 _ _) (list_addW l m its.toArray its2.toArray n1 n2 dd1 dd2 sl1 sl2 sz) ⟨g1, g2, ?_⟩
  rw [show its.toArray ++ its2.toArray = (its ++ its2).toArray by simp]
  exact ⟨.ref s.heap.objs.size, _, I.lnew (t' := s.toks) (r.append r2) (by simp; omega), rfl, q _ I.fresh⟩
theorem pf_cat (ha : PD X W a ra) (hb : PD X W b rb) : PF X W (.BinOp a .Add b pos) (rBin gCat ra rb) := pf_bin op_catR (fun α F H S x y d e z Q hr hx hy hz => by
  unfold gCat at hz
  split at hz
  · rename_i xs ys e1 e2
    split at hz
    · rename_i hl
      cases hz
      obtain ⟨l, us, rfl, a1, a2⟩ := hr.viewL hx e1
      obtain ⟨m, ws, rfl, b1, b2⟩ := hr.viewL hy e2
      exact ⟨_, us ++ ws, rfl, a2.append b2, fun q => ⟨l, m, us, ws, rfl, rfl, a1, b1, by rw [a2.length, b2.length]; exact hl, q⟩⟩
    · cases hz
  · cases hz) ha hb
theorem DVs.rep {us : List V} {xs : List D} (h : DVs wd K mg F α us xs) : ∀ n : Nat, DVs wd K mg F α (List.replicate n us).flatten (List.replicate n xs).flatten
  | 0 => .nil
  | n + 1 => by
    rw [List.replicate_succ, List.replicate_succ, List.flatten_cons, List.flatten_cons]
    exact h.append (DVs.rep h n)
theorem b_tuple : BiG X (.type "tuple") gTuple := by
  refine ⟨_, call_tuple_ofP, fun α F H S xs ds z Q hr hv hz q => ?_⟩
  unfold gTuple at hz
  split at hz
  · cases hv with
    | cons h1 h2 =>
      cases h2
      split at hz
      · rename_i ys e1
        cases hz
        obtain ⟨l, us, rfl, a1, a2⟩ := hr.viewL h1 e1
        refine ⟨l, us, rfl, .inl ⟨a1, fun p hp o ho => ?_⟩⟩
        obtain ⟨c1, c2, c3⟩ := hr.tup a2 hp ho
        exact q _ _ _ _ c1 c2 c3
      · rename_i ys e1
        cases hz
        obtain ⟨l, us, rfl, a1, a2⟩ := hr.viewT h1 e1
        have sx := hr.see h1
        rw [e1] at sx
        cases sx with
        | «at» h _ => exact ⟨l, us, rfl, .inr ⟨a1, fin_now hr h q⟩⟩
      · cases hz
  · cases hz
end
end DL
set_option Elab.async false
set_option linter.all false
set_option maxRecDepth 100000
set_option maxHeartbeats 4000000
set_option autoImplicit false
/-! Data layer, thirteenth part: dicts by numbers and texts; an item stored. -/
namespace DL
open PySem PySem.Spec PyProof.Rows L2
def kD : Key → D
  | .inl i => .int i
  | .inr x => .str x
theorem isKey_kD {d : D} (h : isKey d = true) : ∃ k, d = kD k := by
  cases d with
  | int i => exact ⟨.inl i, rfl⟩
  | str x => exact ⟨.inr x, rfl⟩
  | _ => cases h
theorem keyEq_kD (a b : Key) : keyEq (kD a) (kD b) = decide (a = b) := by
  cases a with
  | inl i => cases b with
    | inl j => show (i == j) = _; rw [key_ll]
    | inr y => show false = _; rw [key_lr]
  | inr x => cases b with
    | inl j => show false = _; rw [key_rl]
    | inr y => show decide (x = y) = _; rw [key_rr]
section
variable {X : Cx} {W : WX} {a b c e tg : Expr} {es rest : List Expr} {ra rb rc : RE} {ba bb : RB} {rs : RA} {pos p : Pos} {wd : World} {K : Fg} {mg : Str → Option Value} {α β : List Addr} {F F1 H H1 : Hp} {S : Sto}
theorem kD_DV {k : Key} {v : V} (h : DV wd K mg F α v (kD k)) : v = kV k := by cases k <;> cases h <;> rfl
/-- a dict's pairs -/
inductive KVs (wd : World) (K : Fg) (mg : Str → Option Value) (F : Hp) (α : List Addr) : List (Key × V) → List (D × D) → Prop
  | nil : KVs wd K mg F α [] []
  | cons {k : Key} {v : V} {d : D} {ws : List (Key × V)} {kvs : List (D × D)} : DV wd K mg F α v d → KVs wd K mg F α ws kvs → KVs wd K mg F α ((k, v) :: ws) ((kD k, d) :: kvs)
theorem KVs.of : ∀ {ws : List (Key × V)} {kvs : List (D × D)}, DKs (ws.map (·.1)) (kvs.map (·.1)) → DVs wd K mg F α (ws.map (·.2)) (kvs.map (·.2)) → KVs wd K mg F α ws kvs
  | [], [], _, _ => .nil
  | [], _ :: _, h, _ => by have := h.length; simp at this
  | _ :: _, [], h, _ => by have := h.length; simp at this
  | (k, v) :: ws, (q, d) :: kvs, h, g => by
    have h' : DKs (k :: ws.map (·.1)) (q :: kvs.map (·.1)) := h
    have g' : DVs wd K mg F α (v :: ws.map (·.2)) (d :: kvs.map (·.2)) := g
    cases g' with
    | cons g1 g2 =>
      cases h' with
      | int h2 => exact .cons (k := .inl _) g1 (KVs.of h2 g2)
      | str h2 => exact .cons (k := .inr _) g1 (KVs.of h2 g2)
theorem KVs.keys {ws : List (Key × V)} {kvs : List (D × D)} (h : KVs wd K mg F α ws kvs) : DKs (ws.map (·.1)) (kvs.map (·.1)) := by
  induction h with
  | nil => exact .nil
  | @cons k v d ws kvs _ _ ih => cases k with
    | inl i => exact .int ih
    | inr x => exact .str ih
theorem KVs.vals {ws : List (Key × V)} {kvs : List (D × D)} (h : KVs wd K mg F α ws kvs) : DVs wd K mg F α (ws.map (·.2)) (kvs.map (·.2)) := by
  induction h with
  | nil => exact .nil
  | cons h _ ih => exact .cons h ih
theorem KVs.length {ws : List (Key × V)} {kvs : List (D × D)} (h : KVs wd K mg F α ws kvs) : ws.length = kvs.length := by
  have := h.vals.length
  simpa using this
theorem KVs.look {ws : List (Key × V)} {kvs : List (D × D)} (h : KVs wd K mg F α ws kvs) (k : Key) : (∀ d, lookD kvs (kD k) = some d → ∃ v, valV ws k = some v ∧ DV wd K mg F α v d) ∧ (lookD kvs (kD k) = none → valV ws k = none) := by
  induction h with
  | nil => exact ⟨(fun d e => by cases e), fun _ => rfl⟩
  | @cons j v d ws kvs h _ ih =>
    unfold lookD
    rw [keyEq_kD]
    by_cases q : j = k
    · subst q
      rw [decide_eq_true rfl, if_pos rfl, valV_pos (p := (j, v)) rfl]
      exact ⟨(fun e z => by cases z; exact ⟨v, rfl, h⟩), fun z => by cases z⟩
    · rw [decide_eq_false q, if_neg (by decide), valV_neg (p := (j, v)) q]
      exact ih
theorem KVs.isSome {ws : List (Key × V)} {kvs : List (D × D)} (h : KVs wd K mg F α ws kvs) (k : Key) : (lookD kvs (kD k)).isSome = (valV ws k).isSome := by
  obtain ⟨h1, h2⟩ := h.look k
  cases e : lookD kvs (kD k) with
  | none => rw [h2 e]; rfl
  | some d => obtain ⟨v, e1, _⟩ := h1 d e; rw [e1]; rfl
theorem KVs.append {ws ws' : List (Key × V)} {kvs kvs' : List (D × D)} (h : KVs wd K mg F α ws kvs) (g : KVs wd K mg F α ws' kvs') : KVs wd K mg F α (ws ++ ws') (kvs ++ kvs') := by
  induction h with
  | nil => exact g
  | cons h _ ih => exact .cons h ih
theorem KVs.put {ws : List (Key × V)} {kvs : List (D × D)} (h : KVs wd K mg F α ws kvs) (k : Key) {v : V} {d : D} (hv : DV wd K mg F α v d) : KVs wd K mg F α (putK ws k v) (putD kvs (kD k) d) := by
  unfold putK putD
  rw [h.isSome k, valV_any]
  by_cases q : (valV ws k).isSome = true
  · rw [if_pos q, if_pos q]
    clear q
    induction h with
    | nil => exact .nil
    | @cons j u e ws kvs h1 _ ih =>
      rw [List.map_cons]
      unfold replD
      rw [keyEq_kD]
      by_cases z : j = k
      · subst z
        rw [decide_eq_true rfl, if_pos rfl, if_pos rfl]
        exact .cons hv ih
      · rw [if_neg (show ¬ (j, u).1 = k from z), decide_eq_false z, if_neg (show ¬ false = true by decide)]
        exact .cons h1 ih
  · rw [if_neg q, if_neg q]
    exact h.append (.cons hv .nil)
theorem KVs.merge {more : List (Key × V)} {mk : List (D × D)} (g : KVs wd K mg F α more mk) : ∀ {ws : List (Key × V)} {kvs : List (D × D)}, KVs wd K mg F α ws kvs → KVs wd K mg F α (mergeK ws more) (mergeD kvs mk) := by
  induction g with
  | nil => exact fun h => h
  | cons h1 _ ih => exact fun h => ih (h.put _ h1)
theorem Own.dctK {ad : Addr} {kvs : List (D × D)} : Own wd K mg F α H ad (.dct kvs) ↔ ∃ ws, H ad = some (.dK ws) ∧ KVs wd K mg F α ws kvs :=
  ⟨fun ⟨ws, h1, h2, h3⟩ => ⟨ws, h1, .of h2 h3⟩, fun ⟨ws, h1, h2⟩ => ⟨ws, h1, h2.keys, h2.vals⟩⟩
theorem Rel.viewD (hr : Rel wd K mg α F H S) {v : V} {d : D} {kvs : List (D × D)} (h : DV wd K mg F α v d) (e : deref S d = .dct kvs) : ∃ a ws, v = .ref a ∧ Rd H a (.dK ws) ∧ KVs wd K mg F α ws kvs := by
  have s := hr.see h
  rw [e] at s
  cases s with
  | «at» h _ => cases h
  | dct q k t => exact ⟨_, _, rfl, q, .of k t⟩
theorem psd_setL {o i value : Expr} {pos' : Pos} {ro ri rv : RE} (ho : PD X W o ro) (hi : PD X W i ri) (hv : PD X W value rv) (ha : ∀ v, assign (.Subscript o i pos') X.env v = (do let ov ← holding [v] (eval o X.env); let iv ← holding [v, ov] (eval i X.env); standAt pos'; holding [v, ov, iv] (setItem ov iv v); release [v, ov, iv] []) := by intro _; rfl)
    (hsw : swapsWithSole [.Subscript o i pos'] value pos.line X.env = pure false := by rfl) (hw : swappedStores [.Subscript o i pos'] value X.env = pure none := by rfl) (h1 : (assignEach [.Subscript o i pos'] X.env).map (·.2) = [assign (.Subscript o i pos') X.env] := by rfl) : PSd X W (.Assign [.Subscript o i pos'] value pos) (sSetL ro ri rv) := by
  obtain ⟨to, po, so⟩ := ho.ex
  obtain ⟨ti, pi, si⟩ := hi.ex
  obtain ⟨tv, pv', sv⟩ := hv.ex
  refine ⟨_, ps_asg pv' (pg_sub po pi set_list ha) hsw hw h1, fun α F σ H δ S E hr hs h => ?_⟩
  refine sv α F σ H δ S _ hr hs (wpS.out h hs fun z S1 _ v H1 β F1 r1 q1 v1 h1 => ?_)
  have hs1 := hs.mono (β := β) q1.sub
  refine so (α ++ β) F1 σ H1 δ S1 _ r1 hs1 (wpS.out h1 hs1 fun x S2 _ xv H2 γ F2 r2 q2 v2 h2 => ?_)
  have hs2 := hs1.mono (β := γ) q2.sub
  refine si (α ++ β ++ γ) F2 σ H2 δ S2 _ r2 hs2 (wpS.out h2 hs2 fun y S3 _ yv H3 ε F3 r3 q3 v3 h3 => ?_)
  have hs3 := hs2.mono (β := ε) q3.sub
  cases x with
  | ptr n =>
    cases y with
    | int i =>
      dsimp only at h3
      split at h3
      · rename_i xs e1
        split at h3
        · rename_i j e2
          have v2' := v2.mono (β := ε) q3.sub
          cases v2' with
          | ptr ea =>
            obtain ⟨o1, _⟩ := r3.own _ _ _ ea e1
            obtain ⟨us, o2, o3⟩ := o1
            cases v3
            have vz := (v1.mono (β := γ) q2.sub).mono (β := ε) q3.sub
            obtain ⟨a1, a2⟩ := r3.setO (o := .lst (us.set j v)) (d := .lst (xs.set j z)) ea e1 rfl ⟨_, upd_same, o3.set vz j⟩
            refine ⟨_, us, i, j, rfl, rfl, o2, by rw [o3.length]; exact e2, ?_⟩
            exact h3 _ _ _ _ a1 a2 (hs3.mono a2.sub)
        · exact h3.elim
      · exact h3.elim
    | _ => exact h3.elim
  | _ => exact h3.elim
/-! ### displays -/
structure PPd (X : Cx) (W : WX) (pos : Pos) (ks : List (Option Expr)) (vs : List Expr) (ps : List (RE × RE)) : Prop where
  ex : ∃ trs, PPs X pos ks vs trs ∧ ∀ α F σ H δ S (Q : List (V × V) → Hp → Prop), Rel X.w X.K X.mg α F H S → Slots X.w X.K X.mg F α σ δ →
    wp X.w X.K X.mg α F H (fun F α (b : List (V × V)) (a : List (D × D)) => DVs X.w X.K X.mg F α (b.map (·.1)) (a.map (·.1)) ∧ DVs X.w X.K X.mg F α (b.map (·.2)) (a.map (·.2))) (rPairs ps δ S) Q (fun c d H' => W c d σ H') → tPairs trs σ H Q
theorem ppd_nil : PPd X W pos [] [] [] := ⟨[], pps_nil, fun α F σ H δ S Q hr hs h => h.now hr ⟨.nil, .nil⟩⟩
theorem ppd_cons {k v : Expr} {ks : List (Option Expr)} {vs : List Expr} {rk rv : RE} {ps : List (RE × RE)} (hk : PD X W k rk) (hv : PD X W v rv) (h : PPd X W pos ks vs ps) : PPd X W pos (some k :: ks) (v :: vs) ((rk, rv) :: ps) := by
  obtain ⟨tk, p1, s1⟩ := hk.ex
  obtain ⟨tv, p2, s2⟩ := hv.ex
  obtain ⟨trs, p3, s3⟩ := h.ex
  refine ⟨(tk, tv) :: trs, pps_cons p1 p2 p3, fun α F σ H δ S Q hr hs h => ?_⟩
  refine s1 α F σ H δ S _ hr hs (wp.bind h fun x S1 _ xv H1 β F1 r1 q1 v1 h1 => ?_)
  refine s2 (α ++ β) F1 σ H1 δ S1 _ r1 (hs.mono q1.sub) (wp.bind h1 fun y S2 _ yv H2 γ F2 r2 q2 v2 h2 => ?_)
  refine s3 (α ++ β ++ γ) F2 σ H2 δ S2 _ r2 ((hs.mono q1.sub).mono q2.sub) (wp.bind h2 fun zs S3 _ zv H3 ε F3 r3 q3 v3 h3 => ?_)
  exact h3.now r3 ⟨.cons ((v1.mono q2.sub).mono q3.sub) v3.1, .cons (v2.mono q3.sub) v3.2⟩
theorem keysOf : ∀ {kvs : List (D × D)} {ps : List (V × V)}, kvs.all (fun p => isKey p.1) = true → DVs wd K mg F α (ps.map (·.1)) (kvs.map (·.1)) → DVs wd K mg F α (ps.map (·.2)) (kvs.map (·.2)) → ∃ ws : List (Key × V), ps = ws.map (fun kv => (kV kv.1, kv.2)) ∧ KVs wd K mg F α ws kvs
  | [], [], _, _, _ => ⟨[], rfl, .nil⟩
  | [], _ :: _, _, h, _ => by have := h.length; simp at this
  | _ :: _, [], _, h, _ => by have := h.length; simp at this
  | (q, d) :: kvs, (x, y) :: ps, hk, h, g => by
    rw [List.all_cons, Bool.and_eq_true] at hk
    have h' : DVs wd K mg F α (x :: ps.map (·.1)) (q :: kvs.map (·.1)) := h
    have g' : DVs wd K mg F α (y :: ps.map (·.2)) (d :: kvs.map (·.2)) := g
    cases h' with
    | cons h1 h2 =>
      cases g' with
      | cons g1 g2 =>
        obtain ⟨ws, e1, e2⟩ := keysOf hk.2 h2 g2
        obtain ⟨k, ek⟩ := isKey_kD hk.1
        have ek : q = kD k := ek
        subst ek
        have := kD_DV h1
        subst this
        exact ⟨(k, y) :: ws, by rw [e1]; rfl, .cons g1 e2⟩
theorem pf_disp {ks : List (Option Expr)} {vs : List Expr} {ps : List (RE × RE)} (h : PPd X W pos ks vs ps) (hall : ks.all (·.isSome) = true := by rfl) (hl : ks.length = vs.length := by rfl) (h0 : ks ≠ [] := by intro z; cases z) (h15 : ks.length ≤ 15 := by decide) : PF X W (.Dict ks vs pos) (rDisp ps) := by
  obtain ⟨trs, p1, s1⟩ := h.ex
  refine ⟨_, pe_disp p1 hall hl h0 h15, fun α F σ H δ S Q hr hs h => fun ad had => ?_⟩
  have n := hr.notin had
  have f := hr.notF had
  unfold rDisp at h
  have hr' := hr.other (o := .dK []) n f
  refine s1 α F σ (upd H ad (.dK [])) δ S _ hr' hs ?_
  have stt : Stp α F H [] F (upd H ad (.dK [])) := Stp.refl.other had
  cases q : rPairs ps δ S with
  | err c fs S1 =>
    rw [q] at h
    intro cls dd H' β F' r1 st er
    have := stt.trans (β := []) (γ := β) (by rw [List.append_nil]; exact st)
    exact h cls dd H' β F' r1 this er
  | stuck => rw [q] at h; exact h.elim
  | ok kvs S1 =>
    rw [q] at h
    have h1 : wpF X.w X.K X.mg α F H (if kvs.all (fun p => isKey p.1) && decide (kvs.length ≤ 15) then .ok (.dct (mergeD [] kvs)) S1 else .stuck) Q _ := h
    split at h1
    · rename_i hc
      rw [Bool.and_eq_true] at hc
      intro pv H' β F' r1 st ⟨g1, g2⟩
      obtain ⟨ws, e1, e2⟩ := keysOf hc.1 g1 g2
      have st' := stt.trans (β := []) (γ := β) (by rw [List.append_nil]; exact st)
      rw [List.nil_append] at st'
      have hD : H' ad = some (.dK []) := st.frame ad _ n upd_same
      have fD : F' ad = none := st.fnew ad n f (by rw [upd_same]; exact fun z => nomatch z)
      have nD : ad ∉ α ++ β := by
        intro z
        rcases List.mem_append.mp z with z | z
        · exact n z
        · have := st.new ad z
          rw [upd_same] at this; cases this
      refine ⟨hD, ws, e1, by rw [e2.length]; exact of_decide_eq_true hc.2, ?_⟩
      exact h1 ad _ β F' (r1.other nD fD) (st'.other had) had nD fD (Own.dctK.mpr ⟨_, upd_same, KVs.merge e2 .nil⟩) rfl
    · exact h1.elim
theorem pf_dnew : PF X W (.Dict [] [] pos) (rC (.dct [])) := ⟨_, pe_dnewK, fun α F σ H δ S Q hr hs h => fun ad had => wpF.lay h hr had (Own.dctK.mpr ⟨[], upd_same, .nil⟩) rfl⟩
end
end DL
set_option Elab.async false
set_option linter.all false
set_option maxRecDepth 100000
set_option maxHeartbeats 4000000
set_option autoImplicit false
/-! Data layer, last part: defs by their names, the law's end. -/
namespace DL
open PySem PySem.Spec PyProof.Rows L2
/-- the text of a def stands under its name -/
structure Fd (K : Fg) (mg : Str → Option Value) (x : Str) (st : Stmt) (ps : List Str) : Prop where
  ex : ∃ (f : Addr) (fd : FuncData), Fun K x x st f fd ∧ mg x = some (.ref f) ∧ Binds K fd ps []
/-- a def keeps to its mirror -/
structure Fn (P : Program) (w : World) (K : Fg) (mg : Str → Option Value) (base : Heap) (x : Str) (n k : Nat) (m : Mir) : Prop where
  ex : ∃ (f : Addr) (fd : FuncData) (ps : List Str), mg x = some (.ref f) ∧ PySem.W.keepIn K (.ref f) = true ∧ Binds K fd ps [] ∧ FnG P w K mg base k f fd ps (spD w K mg n m)
section
variable {X : Cx} {W : WX} {a b c e tg : Expr} {es rest : List Expr} {ra rb rc : RE} {ba bb : RB} {rs : RA} {pos p : Pos} {wd : World} {K : Fg} {mg : Str → Option Value} {α β : List Addr} {F F1 H H1 : Hp} {S : Sto}
theorem pd_fn {x : Str} {m : Mir} {n k : Nat} (F : Fn X.prog X.w X.K X.mg X.base x n k m) (hr : Room k X.A) (hG : X.A.guards = some []) (tk : Takes X W) (ha : PDs X W (e :: es) rs) (hl : (e :: es).length = n := by rfl) (hg : Gl X x := by rfl) (hdb : (x == ("__debug__" : Str)) = false := by decide)
    (he : starEach (e :: es) X.env = (false, eval e X.env) :: starEach es X.env := by rfl) (hpl : (backTo pos (starEach es X.env)).any (·.1) = false := by rfl) : PD X W (.Call (.Name x p) (e :: es) [] pos) (rCall m rs) := by
  obtain ⟨f, fd, ps, h1, h2, h3, h4⟩ := F.ex
  exact pd_call h4 hr hG h1 h2 h3 tk ha hl hg hdb he hpl
theorem pd_gsE {x y : Str} (hm : ∃ t, X.mg x = some (.str y t)) (hg : Gl X x := by rfl) (hd : (x == ("__debug__" : Str)) = false := by decide) : PD X W (.Name x pos) (rC (.str y)) := let ⟨_, h⟩ := hm; pd_gs h hg hd
theorem pd_giE {x : Str} {i : Int} (hm : ∃ t, X.mg x = some (.int i t)) (hg : Gl X x := by rfl) (hd : (x == ("__debug__" : Str)) = false := by decide) : PD X W (.Name x pos) (rC (.int i)) := let ⟨_, h⟩ := hm; pd_gi h hg hd
theorem fun_of {x qual : Str} {st : Stmt} {f : Addr} {fd : FuncData} (F : FunD K x qual (defArgs st) (defBody st) (defScope st) [] [] f fd) : Fun K x qual st f fd := by
  obtain ⟨oc, od, dV, kV, doc, pm, an, cdv, ct, osl, e, lk, hcd, hD, _⟩ := F.ex
  rcases hD with ⟨_, rfl⟩ | ⟨z, _⟩
  · exact ⟨⟨oc, od, kV, doc, pm, an, cdv, ct, osl, e, lk, hcd⟩, F.kp⟩
  · exact absurd rfl z
/-- what a body's derivation is given -/
structure Env1 (X : Cx) (k : Nat) : Prop where
  room : Room k X.A
  gu : X.A.guards = some []
  hp : PassesOwn (model X.prog X.w) X.A X.env X.xe
theorem Env1.u64 {k : Nat} (h : Env1 X k) : X.A.units + 64 < cLine := by have := h.room.un; omega
theorem Env1.u80 {k : Nat} (h : Env1 X k) : X.A.units + 80 < cLine := by have := h.room.un; omega
theorem fn_mk {P : Program} {w : World} {base : Heap} {x : Str} {st : Stmt} {N ps : List Str} {k : Nat} {r : RS} (Fu : Fd K mg x st ps) (Sc : FnScope N ps (defScope st))
    (hbody : ∀ (f : Addr) (cdv : Value) (A : Around) (outer : List Env) (s : Shared) (H : Hp) (E : XK), Env1 (cxOf (L2.CX P w) P w K mg base N x (defScope st) f cdv A outer s H E) k → Takes (cxOf (L2.CX P w) P w K mg base N x (defScope st) f cdv A outer s H E) (fun cls d _ H => E cls d H) →
      PSds (cxOf (L2.CX P w) P w K mg base N x (defScope st) f cdv A outer s H E) (fun cls d _ H => E cls d H) (defBody st) r) : Fn P w K mg base x ps.length (k + 1) (mDef N.length r) := by
  obtain ⟨f, fd, h1, h2, h3⟩ := Fu.ex
  exact ⟨f, fd, ps, h2, h1.kp, h3, fn_okD h1 Sc fun cdv A outer s H E hr hG => hbody f cdv A outer s H E ⟨hr, hG, passes_of rfl⟩ (takes_of rfl rfl rfl rfl)⟩
end
end DL
set_option Elab.async false
set_option linter.all false
set_option maxRecDepth 100000
set_option maxHeartbeats 4000000
set_option autoImplicit false
/-! Data layer: the law's call. -/
namespace DL
open PySem PySem.Spec PyProof.Rows L2
section
variable {P : Program} {w : World} {K : Fg} {mg mb : Str → Option Value} {k : Nat} {fa a : Addr} {fd : FuncData} {x : Str} {m : Mir} {S1 : Shared} {us : List Value} {ns : List Int} {H : Hp}
theorem bv_len : bootBuiltins "len" = some (.builtin "len") := by decide +kernel
theorem bv_abs : bootBuiltins "abs" = some (.builtin "abs") := by decide +kernel
theorem bv_isinstance : bootBuiltins "isinstance" = some (.builtin "isinstance") := by decide +kernel
theorem bv_all : bootBuiltins "all" = some (.builtin "all") := by decide +kernel
theorem bv_any : bootBuiltins "any" = some (.builtin "any") := by decide +kernel
theorem bv_sum : bootBuiltins "sum" = some (.builtin "sum") := by decide +kernel
theorem bv_min : bootBuiltins "min" = some (.builtin "min") := by decide +kernel
theorem bv_max : bootBuiltins "max" = some (.builtin "max") := by decide +kernel
theorem bv_int : bootBuiltins "int" = some (.type "int") := by decide +kernel
theorem bv_str : bootBuiltins "str" = some (.type "str") := by decide +kernel
theorem bv_bool : bootBuiltins "bool" = some (.type "bool") := by decide +kernel
theorem bv_tuple : bootBuiltins "tuple" = some (.type "tuple") := by decide +kernel
theorem bv_dict : bootBuiltins "dict" = some (.type "dict") := by decide +kernel
def natAt (δ : Sl) (i : Nat) : Nat := match δ[i]? with
  | some (some (D.int j)) => j.natAbs
  | _ => 0
/-- what the tracked heap of a law's beginning may hold: the script alone, known to its object -/
structure Lone (K : Fg) (H : Hp) (a : Addr) : Prop where
  at_ : ∀ b, H b ≠ none → b = a
  notK : H a ≠ none → K.lookup a = none
  frz : ∀ b u, H b = some u → ∃ o xs, u = .frz o (.lst xs)
theorem Lone.off (L : Lone K H a) {b : Addr} (h : b ≠ a) : H b = none := by
  cases q : H b with
  | none => rfl
  | some u => exact absurd (L.at_ b (by rw [q]; simp)) h
abbrev lsObj (us : List Value) : Obj := { cls := .type "list", data := .seq us.toArray }
theorem Lone.space (L : Lone K H a) (ha : S1.heap.get? a = some (lsObj us)) {b : Addr} {f : Str → Option Value} (h : S1.heap.Ns b f) : (hidT S1.heap H).Ns b f := by
  obtain ⟨o, es, ep, g, d, r⟩ := h
  have hb : b ≠ a := fun z => by
    subst z
    have e : lsObj us = o := Option.some.inj (ha.symm.trans g)
    subst e
    exact nomatch d
  exact ⟨o, es, ep, hidT_get g (L.off hb), d, r⟩
theorem Lone.frag (L : Lone K H a) (KX : K.In S1.heap) : K.In (hidT S1.heap H) := fun b o e => hidT_get (KX b o e) (by
  by_cases z : b = a
  · subst z
    cases q : H b with
    | none => rfl
    | some u => exact absurd ((L.notK (by rw [q]; simp)).symm.trans e) (by simp)
  · exact L.off z)
abbrev Ended (h : Heap) (os : OsState) : Result → Shared → Prop := fun r z => r = .ok (.ret (.bool true)) ∧ OldK h z.heap ∧ z.os = os ∧ AllBare z.gens
end
end DL
set_option Elab.async false
set_option linter.all false
set_option maxRecDepth 100000
set_option maxHeartbeats 4000000
set_option autoImplicit false
/-! Data layer: dicts whatever their keys: get, in, store. -/
namespace DL
open PySem PySem.Spec PyProof.Rows L2
/-! ### keys -/
mutual
inductive NK (K : Fg) (H : Hp) : NestedKey → V → Prop
  | non : NK K H .none .non
  | bl (b : Bool) : NK K H (.num (if b = true then 1 else 0)) (.bl b)
  | int (i : Int) : NK K H (.num i) (.int i)
  | str (x : Str) : NK K H (.text x) (.str x)
  | tup {a : Addr} {vs : List V} {ks : List NestedKey} : SqT K H a vs → NKs K H ks vs → NK K H (.tup ks) (.ref a)
inductive NKs (K : Fg) (H : Hp) : List NestedKey → List V → Prop
  | nil : NKs K H [] []
  | cons {k : NestedKey} {v : V} {ks : List NestedKey} {vs : List V} : NK K H k v → NKs K H ks vs → NKs K H (k :: ks) (v :: vs)
end
section
variable {wd : World} {K : Fg} {mg : Str → Option Value} {F H : Hp} {α : List Addr} {S : Sto}
mutual
theorem DV.nk {v : V} : ∀ {d : D} {k : NestedKey}, DV wd K mg F α v d → keyN d = some k → Sub F H → NK K H k v
  | _, _, .non, e, _ => by cases e; exact .non
  | _, _, .bl b, e, _ => by cases e; exact .bl b
  | _, _, .int i, e, _ => by cases e; exact .int i
  | _, _, .str x, e, _ => by cases e; exact .str x
  | _, _, .tup h t, e, s => by
    rename_i ds
    unfold keyN at e
    cases q : keyNs ds with
    | none => rw [q] at e; cases e
    | some ys => rw [q] at e; cases e; exact .tup (s.sqT h.1) (DVs.nk t q s)
  | _, _, .lst _ _, e, _ => by cases e
  | _, _, .tux _ _, e, _ => by cases e
  | _, _, .ptr _, e, _ => by cases e
  | _, _, .fn _, e, _ => by cases e
  | _, _, .ty _, e, _ => by cases e
  | _, _, .exc _ _ _ _ _, e, _ => by cases e
  | _, _, .dc0 _ _, e, _ => by cases e
theorem DVs.nk {vs : List V} : ∀ {ds : List D} {ks : List NestedKey}, DVs wd K mg F α vs ds → keyNs ds = some ks → Sub F H → NKs K H ks vs
  | _, _, .nil, e, _ => by cases e; exact .nil
  | _, _, .cons h t, e, s => by
    rename_i d _ ds
    unfold keyNs at e
    cases q1 : keyN d with
    | none => rw [q1] at e; cases e
    | some x =>
      cases q2 : keyNs ds with
      | none => rw [q1, q2] at e; cases e
      | some xs => rw [q1, q2] at e; cases e; exact .cons (DV.nk h q1 s) (DVs.nk t q2 s)
end
end
section
variable {X : Cx} {pins : List (Addr × Obj)} {σ : L2.St} {H : Hp} {s : Shared}
mutual
theorem NK.is (I : Inv X pins σ H s) : ∀ {k : NestedKey} {v : V} {u : Value}, NK X.K H k v → RelV v u → NestedIs s.heap k u
  | _, _, u, .non, r => by have : u = Value.none := r; subst this; exact .none
  | _, _, u, .bl b, r => by have : u = Value.bool b := r; subst this; exact .bool rfl
  | _, _, u, .int i, r => by obtain ⟨t, e⟩ := (show ∃ t, u = Value.int i t from r); subst e; exact .int _ _
  | _, _, u, .str x, r => by obtain ⟨t, e⟩ := (show ∃ t, u = Value.str x t from r); subst e; exact .text _ _
  | _, _, u, .tup (a := a) h t, r => by
    have : u = Value.ref a := r
    subst this
    obtain ⟨its, rv, ⟨o, ho, hc, n, hd⟩, _⟩ := I.tuple h
    exact .tup ho hc hd (by simpa using NKs.are I t rv)
theorem NKs.are (I : Inv X pins σ H s) : ∀ {ks : List NestedKey} {vs : List V} {us : List Value}, NKs X.K H ks vs → Vals vs us → NestedAll s.heap ks us
  | _, _, _, .nil, r => by cases r; exact .nil
  | _, _, _, .cons h t, r => by
    cases r with
    | cons r1 r2 => exact .cons (NK.is I h r1) (NKs.are I t r2)
end
end
/-! ### what a dict holds, by values -/
def lookV (xs : List (NestedKey × Addr × V)) (k : NestedKey) : Option V := (xs.find? fun x => decide (x.1 = k)).map (·.2.2)
def putV1 (k : NestedKey) (v : V) (x : NestedKey × Addr × V) : NestedKey × Addr × V := if x.1 = k then (x.1, x.2.1, v) else x
def putV (xs : List (NestedKey × Addr × V)) (k : NestedKey) (a : Addr) (v : V) : List (NestedKey × Addr × V) := if (lookV xs k).isSome then xs.map (putV1 k v) else xs ++ [(k, a, v)]
theorem NV.look {xs : List (NestedKey × Addr × V)} {vs : List (NestedKey × Addr × Value)} (h : NV xs vs) (k : NestedKey) : RelO (lookV xs k) ((atKey vs k).map (·.2)) := by
  unfold NV at h
  induction h with
  | nil => trivial
  | @cons a b l₁ l₂ r t ih =>
    unfold lookV atKey at ih ⊢
    rw [List.find?_cons, List.find?_cons, ← r.1]
    by_cases q : a.1 = k
    · rw [decide_eq_true q]
      exact r.2.2
    · rw [decide_eq_false q]
      exact ih
theorem NV.isSome {xs : List (NestedKey × Addr × V)} {vs : List (NestedKey × Addr × Value)} (h : NV xs vs) (k : NestedKey) : (lookV xs k).isSome = (atKey vs k).isSome := by
  have := (h.look k).isSome_eq
  rw [Option.isSome_map] at this
  exact this
theorem NV.put {xs : List (NestedKey × Addr × V)} {vs : List (NestedKey × Addr × Value)} (h : NV xs vs) (k : NestedKey) (a : Addr) {v : V} {u : Value} (r : RelV v u) : NV (putV xs k a v) (storedH vs k a u) := by
  have e := h.isSome k
  unfold putV storedH
  rw [e]
  by_cases q : (atKey vs k).isSome = true
  · rw [if_pos q, if_pos q]
    clear q e
    unfold NV at h ⊢
    induction h with
    | nil => exact .nil
    | @cons x y l₁ l₂ z t ih =>
      refine .cons ?_ ih
      unfold putV1 putAt
      rw [← z.1]
      by_cases c : x.1 = k
      · rw [if_pos c, if_pos c]; exact ⟨rfl, z.2.1, r⟩
      · rw [if_neg c, if_neg c]; exact z
  · rw [if_neg q, if_neg q]
    exact Paired.snoc h ⟨rfl, rfl, r⟩
theorem NV.length {xs : List (NestedKey × Addr × V)} {vs : List (NestedKey × Addr × Value)} (h : NV xs vs) : xs.length = vs.length := Paired.length h
theorem NV.keys {xs : List (NestedKey × Addr × V)} {vs : List (NestedKey × Addr × Value)} (h : NV xs vs) : xs.map (·.1) = vs.map (·.1) := by
  unfold NV at h
  induction h with
  | nil => rfl
  | cons r _ ih => rw [List.map_cons, List.map_cons, ih, r.1]
theorem putV_length (xs : List (NestedKey × Addr × V)) (k : NestedKey) (a : Addr) (v : V) : (putV xs k a v).length ≤ xs.length + 1 := by
  unfold putV
  split
  · rw [List.length_map]; omega
  · rw [List.length_append]; exact Nat.le_refl _
/-- every key is a key -/
def NKeys (K : Fg) (H : Hp) (xs : List (NestedKey × Addr × V)) : Prop := ∀ x ∈ xs, NK K H x.1 (.ref x.2.1) ∧ x.1.depth ≤ 8
/-- at a stands a dict xs of tuple keys; the empty one is any -/
def NAt (w : World) (H : Hp) (a : Addr) (xs : List (NestedKey × Addr × V)) : Prop := Rd H a (dN w a xs) ∨ (xs = [] ∧ Rd H a (.dK []))
/-- .. that may be written -/
def NWr (w : World) (H : Hp) (a : Addr) (xs : List (NestedKey × Addr × V)) : Prop := H a = some (dN w a xs) ∨ (xs = [] ∧ H a = some (.dK []))
theorem NWr.at {w : World} {H : Hp} {a : Addr} {xs : List (NestedKey × Addr × V)} (h : NWr w H a xs) : NAt w H a xs := h.imp .inl fun ⟨e, q⟩ => ⟨e, .inl q⟩
theorem n_at {X : Cx} {pins : List (Addr × Obj)} {σ : L2.St} {H : Hp} {s : Shared} {a : Addr} {xs : List (NestedKey × Addr × V)} (I : Inv X pins σ H s) (e : NAt X.w H a xs) (hk : NKeys X.K H xs) :
    xs.length ≤ sizeLine ∧ (a == sysModules) = false ∧ ∃ vs, NV xs vs ∧ s.heap.DictOfH (nestedKind X.prog X.w) a vs := by
  rcases e with e | ⟨rfl, e⟩
  · obtain ⟨⟨h1, h2, h3, vs, h4, o, es, ep, h5, h6, h7, h8⟩, _⟩ := (show ObjOk X.prog X.w H s.heap a (dN X.w a xs) from e.ok I.hok)
    refine ⟨h2, h1, vs, h4, o, es, ep, h5, h6, h7, h8, fun x hx => ?_, by rw [← h4.keys]; exact h3⟩
    obtain ⟨i, hi⟩ := List.mem_iff_getElem?.mp hx
    have hl := h4.length
    obtain ⟨y, hy⟩ : ∃ y, xs[i]? = some y := ⟨_, List.getElem?_eq_getElem (by rw [hl]; exact (List.getElem?_eq_some_iff.mp hi).1)⟩
    obtain ⟨z, hz, q1, q2, _⟩ := paired_get h4 hy
    rw [hi] at hz
    cases hz
    obtain ⟨k1, k2⟩ := hk y (List.mem_of_getElem? hy)
    rw [← q1, ← q2]
    exact ⟨NK.is I k1 rfl, k2⟩
  · obtain ⟨h1, h2, vs, kv, o, es, ep, h3, h4, h5, h6⟩ := dk_rd I.hok e
    refine ⟨Nat.zero_le _, h2, [], .nil, o, es, ep, h3, h4, h5, ?_, (fun _ h => (nomatch h)), List.nodup_nil⟩
    have l1 := h6.2.1.length
    have l2 : ([] : List (Key × V)).length = vs.length := Paired.length kv
    rw [← l2] at l1
    exact List.eq_nil_of_length_eq_zero l1
end DL
set_option Elab.async false
set_option linter.all false
set_option maxRecDepth 100000
set_option maxHeartbeats 4000000
set_option autoImplicit false
/-! Data layer: dicts whatever their keys, by data. -/
namespace DL
open PySem PySem.Spec PyProof.Rows L2
def lookU (S : Sto) (d q : D) : Option (Option D) := match deref S d with
  | .dct kvs => if isKey q then some (lookD kvs q) else if kvs.isEmpty && isKeyN q then some none else none
  | .dcn kvs => if isKeyN q then some (lookN kvs q) else none
  | _ => none
def isDct (S : Sto) (d : D) : Bool := match deref S d with
  | .dct _ => true
  | .dcn _ => true
  | _ => false
/-- d.get(k, x) -/
def rGet2 (a k x : RE) : RE := fun δ S => (a δ S).bind fun d S1 => if isDct S1 d then (k δ S1).bind fun q S2 => (x δ S2).bind fun z S3 => .lift ((lookU S3 d q).map (·.getD z)) S3 else .stuck
/-- d[k] = v -/
def putU (u y z : D) : Option D := match u with
  | .dct kvs => if isKey y then (if kvs.length < sizeLine then some (.dct (putD kvs y z)) else none) else if kvs.isEmpty && isKeyN y then some (.dcn [(y, z)]) else none
  | .dcn kvs => if isKeyN y && decide (kvs.length < sizeLine) then some (.dcn (putN kvs y z)) else none
  | _ => none
def sPutU (d k v : RE) : RS := fun δ S => (v δ S).out δ fun z S1 => (d δ S1).out δ fun x S2 => (k δ S2).out δ fun y S3 => match x with
  | .ptr n => (match S3[n]? with
    | some u => (match putU u y z with
      | some u' => .nx δ (S3.set n u')
      | none => .stuck)
    | none => .stuck)
  | _ => .stuck
section
variable {wd : World} {K : Fg} {mg : Str → Option Value} {α β : List Addr} {F F1 H H1 : Hp} {S : Sto}
theorem isKeyN_ex {q : D} (h : isKeyN q = true) : ∃ ds nk, q = .tup ds ∧ keyN q = some nk ∧ nk.depth ≤ 8 := by
  cases q with
  | tup ds =>
    unfold isKeyN at h
    dsimp only at h
    split at h
    · rename_i k e
      exact ⟨ds, k, rfl, e, of_decide_eq_true h⟩
    · cases h
  | _ => cases h
theorem eqN_dec {a b : D} {x y : NestedKey} (h1 : keyN a = some x) (h2 : keyN b = some y) : eqN a b = decide (x = y) := by
  unfold eqN
  rw [h1, h2, NestedKey.decide_eq]
theorem NVs.keys {xs : List (NestedKey × Addr × V)} {kvs : List (D × D)} (h : NVs wd K mg F α xs kvs) (s : Sub F H) : NKeys K H xs := by
  induction h with
  | nil => intro x hx; cases hx
  | cons h1 h2 h3 _ _ _ ih =>
    intro x hx
    rcases List.mem_cons.mp hx with rfl | hx
    · exact ⟨h3.nk h1 s, h2⟩
    · exact ih x hx
theorem NVs.length {xs : List (NestedKey × Addr × V)} {kvs : List (D × D)} (h : NVs wd K mg F α xs kvs) : xs.length = kvs.length := by
  induction h with
  | nil => rfl
  | cons _ _ _ _ _ _ ih => rw [List.length_cons, List.length_cons, ih]
theorem putV1_pos {k : NestedKey} {v : V} {x : NestedKey × Addr × V} (h : x.1 = k) : putV1 k v x = (x.1, x.2.1, v) := if_pos h
theorem putV1_neg {k : NestedKey} {v : V} {x : NestedKey × Addr × V} (h : ¬ x.1 = k) : putV1 k v x = x := if_neg h
theorem NVs.look {xs : List (NestedKey × Addr × V)} {kvs : List (D × D)} (h : NVs wd K mg F α xs kvs) {q : D} {nk : NestedKey} (hq : keyN q = some nk) :
    (∀ d, lookN kvs q = some d → ∃ v, lookV xs nk = some v ∧ DV wd K mg F α v d) ∧ (lookN kvs q = none → lookV xs nk = none) := by
  induction h with
  | nil => exact ⟨(fun d e => by cases e), fun _ => rfl⟩
  | @cons nk' b' v' q' d' xs kvs h1 h2 h3 h4 h5 h6 ih =>
    unfold lookN lookV
    rw [eqN_dec h1 hq, List.find?_cons]
    by_cases e : nk' = nk
    · rw [decide_eq_true e]
      exact ⟨(fun d z => by cases z; exact ⟨_, rfl, h5⟩), fun z => by cases z⟩
    · rw [decide_eq_false e]
      exact ih
theorem NVs.isSome {xs : List (NestedKey × Addr × V)} {kvs : List (D × D)} (h : NVs wd K mg F α xs kvs) {q : D} {nk : NestedKey} (hq : keyN q = some nk) : (lookN kvs q).isSome = (lookV xs nk).isSome := by
  obtain ⟨h1, h2⟩ := h.look hq
  cases e : lookN kvs q with
  | none => rw [h2 e]; rfl
  | some d => obtain ⟨v, e1, _⟩ := h1 d e; rw [e1]; rfl
theorem NVs.append {xs ys : List (NestedKey × Addr × V)} {kvs lws : List (D × D)} (h : NVs wd K mg F α xs kvs) (g : NVs wd K mg F α ys lws) : NVs wd K mg F α (xs ++ ys) (kvs ++ lws) := by
  induction h with
  | nil => exact g
  | cons h1 h2 h3 h4 h5 _ ih => exact .cons h1 h2 h3 h4 h5 ih
theorem NVs.put {xs : List (NestedKey × Addr × V)} {kvs : List (D × D)} (h : NVs wd K mg F α xs kvs) {q d : D} {nk : NestedKey} {b : Addr} {v : V} (hq : keyN q = some nk) (hd : nk.depth ≤ 8) (hb : DV wd K mg F α (.ref b) q) (ht : ∃ ds, q = .tup ds) (hv : DV wd K mg F α v d) :
    NVs wd K mg F α (putV xs nk b v) (putN kvs q d) := by
  unfold putV putN
  rw [← h.isSome hq]
  by_cases c : (lookN kvs q).isSome = true
  · rw [if_pos c, if_pos c]
    clear c
    induction h with
    | nil => exact .nil
    | @cons nk' b' v' q' d' xs kvs h1 h2 h3 h4 h5 _ ih =>
      rw [List.map_cons]
      unfold replN
      rw [eqN_dec h1 hq]
      by_cases z : nk' = nk
      · rw [decide_eq_true z, if_pos rfl, putV1_pos (x := (nk', b', v')) z]
        exact .cons h1 h2 h3 h4 hv ih
      · rw [decide_eq_false z, if_neg (show ¬ false = true by decide), putV1_neg (x := (nk', b', v')) z]
        exact .cons h1 h2 h3 h4 h5 ih
  · rw [if_neg c, if_neg c]
    exact h.append (.cons hq hd hb ht hv .nil)
theorem DV.isRef {v : V} {ds : List D} (h : DV wd K mg F α v (.tup ds)) : ∃ b, v = .ref b := by cases h; exact ⟨_, rfl⟩
end
end DL
set_option Elab.async false
set_option linter.all false
set_option maxRecDepth 100000
set_option maxHeartbeats 4000000
set_option autoImplicit false
/-! Data layer: dicts walked while they are locked. -/
namespace DL
open PySem PySem.Spec PyProof.Rows L2
/-! ### a locked dict of tuple keys -/
section
variable {X : Cx} {pins : List (Addr × Obj)} {σ : L2.St} {H : Hp} {s : Shared} {d : Addr} {o : Obj}
theorem frzN {xs : List (NestedKey × Addr × V)} (I : Inv X pins σ H s) (h : H d = some (.frz o (dN X.w d xs))) :
    (d == sysModules) = false ∧ s.heap.get? d = some o ∧ o.ExactDict ∧ ∃ (es : Array DictEntry) (ep : Nat), o.data = .dict es ep ∧ es.size = xs.length ∧
      ∀ (i : Nat) (k : NestedKey) (b : Addr) (v : V), xs[i]? = some (k, b, v) → ∃ en : DictEntry, es[i]? = some en ∧ en.key = .ref b ∧ RelV v en.val := by
  obtain ⟨hd, ⟨h1, h2, h3, vs, h4, o', es, ep, h5, h6, h7, h8⟩, _⟩ := I.hok d _ h
  rw [hd] at h5
  cases h5
  have hl := h4.length
  refine ⟨h1, hd, h6, es, ep, h7, ?_, fun i k b v e => ?_⟩
  · rw [← Array.length_toList, h8, List.length_map, hl]
  · obtain ⟨y, hy, e1, e2, e3⟩ := paired_get h4 e
    refine ⟨⟨y.1.hash X.w, .ref y.2.1, y.2.2⟩, ?_, ?_, e3⟩
    · rw [← Array.getElem?_toList, h8, List.getElem?_map, hy]; rfl
    · show Value.ref y.2.1 = .ref b
      rw [← e2]
end
/-- the pairs, each a new tuple -/
def ItiN (w : World) (d : Addr) (o : Obj) (xs : List (NestedKey × Addr × V)) : It :=
  ⟨fun i H => H d = some (.frz o (dN w d xs)) ∧ i < xs.length, fun i H x H' => ∃ T k b v, xs[i]? = some (k, b, v) ∧ x = .ref T ∧ H T = none ∧ H' = upd H T (.tup [.ref b, v]), fun i H => H d = some (.frz o (dN w d xs)) ∧ xs.length ≤ i⟩
section
variable {P : Program} {w : World} {K : Fg} {tg : Expr} {d : Addr} {o : Obj} {es : Array DictEntry} {ep : Nat}
theorem turn_itemsN {xs : List (NestedKey × Addr × V)} {elts : List Expr} {kk : Nat} {tpos : Pos} (it : Addr) (hod : o.data = .dict es ep) :
    Turn P w K (.Tuple elts kk tpos) (ItiN w d o xs) [it] it (fun i h => ∃ ok ov, IsItemIter h it d i xs.length ep ok ov) where
  mem := by simp
  obj := fun i h st b hb => by
    have e : b = it := by simpa using hb
    subst e
    obtain ⟨ok, ov, e⟩ := st
    exact ⟨_, e, fun v z => nomatch z⟩
  keep := fun i h h' st k => let ⟨ok, ov, e⟩ := st; ⟨ok, ov, k it (by simp) _ e⟩
  item := by
    intro X hP hw hK hc i pins s σ H E I hf st hg
    subst hP hw hK
    obtain ⟨hd, hi⟩ := hg
    obtain ⟨hs, hgd, hx, es', ep', hdt, hsz, ent⟩ := frzN I hd
    obtain ⟨rfl, rfl⟩ := dict_ep hod hdt
    obtain ⟨⟨k, b, v⟩, hkv⟩ : ∃ p, xs[i]? = some p := ⟨xs[i], List.getElem?_eq_getElem hi⟩
    obtain ⟨en, hen, hkey, rv⟩ := ent i k b v hkv
    obtain ⟨ok, ov, he⟩ := st
    rw [← hsz] at he
    have hlt : it < s.heap.objs.size := Heap.lt_size he
    have hi' : i < es'.size := by rw [hsz]; exact hi
    have ee : es'[i] = en := by
      rw [Array.getElem?_eq_getElem hi'] at hen
      exact Option.some.inj hen
    refine wpAny_pyNext_items_item_raw he ⟨o, hgd, hx, hdt⟩ hi' fun h' ho hT hz hk => ?_
    refine ⟨_, rfl, wpAny_letOwnedTupleGo_items (s := { s with heap := h' }) ho fun h'' he' sb => ?_⟩
    have hT2 : h''.get? s.heap.objs.size = some { cls := .type "tuple", data := .seq #[es'[i].key, es'[i].val] } := (sb.2 _ (Nat.ne_of_gt hlt)).trans hT
    have new : ObjOk X.prog X.w (upd H s.heap.objs.size (.tup [.ref b, v])) h'' s.heap.objs.size (.tup [.ref b, v]) :=
      ⟨by show 2 ≤ sizeLine; decide, [es'[i].key, es'[i].val], .cons (show es'[i].key = .ref b by rw [ee]; exact hkey) (.cons (by rw [ee]; exact rv) .nil), ⟨_, hT2, rfl, _, rfl⟩⟩
    have I1 : Inv X pins σ (upd H s.heap.objs.size (.tup [.ref b, v])) { s with heap := h'' } :=
      I.turnedNew (t' := s.toks) (ch := [it]) (fun b ob hb e => (sb.2 b (by simpa using hb)).trans (hk b ob (by simpa using hb) e)) hf (Nat.le_refl _) new
    refine ⟨.ref s.heap.objs.size, _, I1, rfl, ⟨_, k, b, v, hkv, rfl, I.hok.fresh (Nat.le_refl _), rfl⟩, ⟨es'[i].key, es'[i].val, ?_⟩, fun b hb => ?_⟩
    · rw [← hsz]; exact he'
    · have e : b = it := by simpa using hb
      rw [e, upd_ne (Nat.ne_of_lt hlt)]
      exact (hf it (by simp)).1
  done := by
    intro X hP hw hK hc i pins s σ H E I hf st hg
    subst hP hw hK
    obtain ⟨hd, hi⟩ := hg
    obtain ⟨f0, f1, f2, f3, f4, f5⟩ := hf it (by simp)
    obtain ⟨hs, hgd, hx, es', ep', hdt, hsz, ent⟩ := frzN I hd
    obtain ⟨rfl, rfl⟩ := dict_ep hod hdt
    obtain ⟨ok, ov, he⟩ := st
    rw [← hsz] at he
    exact wpAny_pyNext_items_end_raw (I.ok.hd hc) he ⟨o, hgd, hx, hdt⟩ (by omega) fun h' eb => ⟨rfl, I.turned (t' := s.toks) (fun b ob hb e => eb b ob hb e) f0 f1 f3 f4 f5⟩
  self := fun A i s Q E st h => let ⟨_, _, e⟩ := st; PySem.W.kcp_self e h
end
/-! ### by data -/
def pairsD (kvs : List (D × D)) : List D := kvs.map fun p => .tux [p.1, p.2]
def lckOf (S : Sto) (d : D) : Option (List (D × D)) := match d with
  | .ptr k => (match S[k]? with
    | some (.lck (.dct kvs)) => some kvs
    | some (.lck (.dcn kvs)) => some kvs
    | _ => none)
  | _ => none
section
variable {wd : World} {K : Fg} {mg : Str → Option Value} {α β : List Addr} {F F1 H H1 : Hp} {S : Sto}
theorem KVs.at {ws : List (Key × V)} {kvs : List (D × D)} (h : KVs wd K mg F α ws kvs) : ∀ {i : Nat} {p : D × D}, kvs[i]? = some p → ∃ k v, ws[i]? = some (k, v) ∧ p.1 = kD k ∧ DV wd K mg F α v p.2 := by
  induction h with
  | nil => intro i p e; simp at e
  | cons h _ ih =>
    intro i p e
    cases i with
    | zero => simp at e; subst e; exact ⟨_, _, rfl, rfl, h⟩
    | succ i => simp at e; obtain ⟨k, v, e1, e2, e3⟩ := ih e; exact ⟨k, v, by simpa using e1, e2, e3⟩
theorem NVs.at {xs : List (NestedKey × Addr × V)} {kvs : List (D × D)} (h : NVs wd K mg F α xs kvs) : ∀ {i : Nat} {p : D × D}, kvs[i]? = some p → ∃ k b v, xs[i]? = some (k, b, v) ∧ DV wd K mg F α (.ref b) p.1 ∧ DV wd K mg F α v p.2 := by
  induction h with
  | nil => intro i p e; simp at e
  | cons h1 h2 h3 h4 h5 _ ih =>
    intro i p e
    cases i with
    | zero => simp at e; subst e; exact ⟨_, _, _, rfl, h3, h5⟩
    | succ i => simp at e; obtain ⟨k, b, v, e1, e2, e3⟩ := ih e; exact ⟨k, b, v, by simpa using e1, e2, e3⟩
theorem DV.key (k : Key) : DV wd K mg F α (kV k) (kD k) := by cases k <;> constructor
theorem Sub.at {F F' : Hp} {a : Addr} {u : HO} (s : Sub F F') (h : F a = some u) : F' a = some u := s _ _ h
theorem it_items {a : Addr} {o : Obj} {ws : List (Key × V)} {kvs : List (D × D)} (hF : F a = some (.frz o (.dK ws))) (h : KVs wd K mg F α ws kvs) : ItOk wd K mg F α (Iti a o ws) (pairsD kvs) where
  go := fun F' H' i s1 s2 hi => ⟨s2 _ _ (s1 _ _ hF), by unfold pairsD at hi; rw [List.length_map] at hi; rw [h.length]; exact hi⟩
  stop := fun F' H' s1 s2 => ⟨s2 _ _ (s1 _ _ hF), by unfold pairsD; rw [List.length_map, h.length]; exact Nat.le_refl _⟩
  yld := fun F' H' H2 i x d s1 s2 hd ⟨T, k, v, e1, e2, e3, e4⟩ => by
    unfold pairsD at hd
    rw [List.getElem?_map] at hd
    obtain ⟨p, hp, rfl⟩ := Option.map_eq_some_iff.mp hd
    obtain ⟨k', v', g1, g2, g3⟩ := h.at hp
    rw [e1] at g1
    cases g1
    refine .inr ⟨T, _, e3, e4, ?_⟩
    subst e2
    have hn : F' T = none := by
      cases q : F' T with
      | none => rfl
      | some u => rw [s2 _ _ q] at e3; cases e3
    have g3' := g3.mono (β := []) (s1.trans (Sub.new (o := .tup [kV k, v]) hn))
    rw [List.append_nil] at g3'
    rw [g2]
    exact .tux (SqT.of upd_same) (.cons (DV.key k) (.cons g3' .nil))
theorem it_itemsN {a : Addr} {o : Obj} {xs : List (NestedKey × Addr × V)} {kvs : List (D × D)} (hF : F a = some (.frz o (dN wd a xs))) (h : NVs wd K mg F α xs kvs) : ItOk wd K mg F α (ItiN wd a o xs) (pairsD kvs) where
  go := fun F' H' i s1 s2 hi => ⟨s2 _ _ (s1 _ _ hF), by unfold pairsD at hi; rw [List.length_map] at hi; rw [h.length]; exact hi⟩
  stop := fun F' H' s1 s2 => ⟨s2 _ _ (s1 _ _ hF), by unfold pairsD; rw [List.length_map, h.length]; exact Nat.le_refl _⟩
  yld := fun F' H' H2 i x d s1 s2 hd ⟨T, k, b, v, e1, e2, e3, e4⟩ => by
    unfold pairsD at hd
    rw [List.getElem?_map] at hd
    obtain ⟨p, hp, rfl⟩ := Option.map_eq_some_iff.mp hd
    obtain ⟨k', b', v', g1, g2, g3⟩ := h.at hp
    rw [e1] at g1
    cases g1
    refine .inr ⟨T, _, e3, e4, ?_⟩
    subst e2
    have hn : F' T = none := by
      cases q : F' T with
      | none => rfl
      | some u => rw [s2 _ _ q] at e3; cases e3
    have sb := s1.trans (Sub.new (o := .tup [.ref b, v]) hn)
    have g2' := g2.mono (β := []) sb
    have g3' := g3.mono (β := []) sb
    rw [List.append_nil] at g2' g3'
    exact .tux (SqT.of upd_same) (.cons g2' (.cons g3' .nil))
/-- a locked thing -/
theorem Rel.locked (hr : Rel wd K mg α F H S) {v : V} {d : D} {kvs : List (D × D)} (h : DV wd K mg F α v d) (e : lckOf S d = some kvs) :
    ∃ a o, v = .ref a ∧ ((∃ ws, F a = some (.frz o (.dK ws)) ∧ KVs wd K mg F α ws kvs) ∨ ∃ xs, F a = some (.frz o (dN wd a xs)) ∧ NVs wd K mg F α xs kvs) := by
  unfold lckOf at e
  split at e
  · rename_i k
    cases h with
    | @ptr _ a ea =>
      split at e
      · rename_i kvs' e1
        cases e
        obtain ⟨o, ws, h0, h1, h2, h3⟩ := (hr.own _ _ _ ea e1).1
        exact ⟨a, o, rfl, .inl ⟨ws, h0, .of h2 h3⟩⟩
      · rename_i kvs' e1
        cases e
        obtain ⟨o, ws, h0, h1, h2⟩ := (hr.own _ _ _ ea e1).1
        exact ⟨a, o, rfl, .inr ⟨ws, h0, h2⟩⟩
      · cases e
  · cases e
end
end DL
set_option Elab.async false
set_option linter.all false
set_option maxRecDepth 100000
set_option maxHeartbeats 4000000
set_option autoImplicit false
/-! Data layer: a statement done while a dict is locked; what is never reached. -/
namespace DL
open PySem PySem.Spec PyProof.Rows L2
def isSq : HO → Prop
  | .tup _ => True
  | .lst _ => True
  | .frz _ (.tup _) => True
  | .frz _ (.lst _) => True
  | .ext _ => True
  | .xd _ => True
  | _ => False
/-- lists and tuples stay -/
def SubS (F F' : Hp) : Prop := ∀ a u, F a = some u → isSq u → F' a = some u
theorem SubS.t {F F' : Hp} (s : SubS F F') {a : Addr} {xs : List V} (h : Rd F a (.tup xs)) : Rd F' a (.tup xs) := h.imp (fun e => s _ _ e trivial) fun ⟨o, e⟩ => ⟨o, s _ _ e trivial⟩
theorem SubS.l {F F' : Hp} (s : SubS F F') {a : Addr} {xs : List V} (h : Rd F a (.lst xs)) : Rd F' a (.lst xs) := h.imp (fun e => s _ _ e trivial) fun ⟨o, e⟩ => ⟨o, s _ _ e trivial⟩
section
variable {wd : World} {K : Fg} {mg : Str → Option Value} {α β : List Addr} {F F' H H1 : Hp} {S : Sto}
mutual
theorem DV.stay {v : V} {d : D} (s : SubS F F') : DV wd K mg F α v d → DV wd K mg F' α v d
  | .non => .non
  | .bl b => .bl b
  | .int i => .int i
  | .str x => .str x
  | .tup h t => .tup ⟨h.1.imp s.t id, h.2.imp (fun ⟨o, e, q⟩ => ⟨o, s _ _ e trivial, q⟩) id⟩ (DVs.stay s t)
  | .tux h t => .tux (h.imp s.t id) (DVs.stay s t)
  | .lst h t => .lst (h.imp s.l id) (DVs.stay s t)
  | .ptr h => .ptr h
  | .fn h => .fn h
  | .ty n => .ty n
  | .exc h1 h2 h3 h4 h5 => .exc h1 (s _ _ h2 trivial) (h3.imp id fun ⟨dd, e, q⟩ => ⟨dd, e, s _ _ q trivial⟩) h4 (DVs.stay s h5)
  | .dc0 h1 h2 => .dc0 (s _ _ h1 trivial) (DV.stay s h2)
  | .lam h1 h2 => .lam (s _ _ h1 trivial) (DVs.stay s h2)
theorem DVs.stay {vs : List V} {ds : List D} (s : SubS F F') : DVs wd K mg F α vs ds → DVs wd K mg F' α vs ds
  | .nil => .nil
  | .cons h t => .cons (DV.stay s h) (DVs.stay s t)
end
theorem NVs.stay {xs : List (NestedKey × Addr × V)} {kvs : List (D × D)} (s : SubS F F') (h : NVs wd K mg F α xs kvs) : NVs wd K mg F' α xs kvs := by
  induction h with
  | nil => exact .nil
  | cons h1 h2 h3 h4 h5 _ ih => exact .cons h1 h2 (h3.stay s) h4 (h5.stay s) ih
/-- what may be locked -/
def Lkd (wd : World) (a : Addr) (u : HO) : Prop := (∃ ws, u = .dK ws) ∨ ∃ xs, u = dN wd a xs
theorem Lkd.mut {a : Addr} {u : HO} (h : Lkd wd a u) : Mut (some u) := by
  rcases h with ⟨ws, rfl⟩ | ⟨xs, rfl⟩ <;> exact True.intro
/-- F without a -/
def erase (F : Hp) (a : Addr) : Hp := fun b => if b = a then none else F b
theorem erase_same {a : Addr} : erase F a a = none := by unfold erase; rw [if_pos rfl]
theorem erase_ne {a b : Addr} (h : b ≠ a) : erase F a b = F b := by unfold erase; rw [if_neg h]
theorem erase_stay {a : Addr} {o : Obj} {u : HO} (h : F a = some (.frz o u)) (hu : Lkd wd a u) : SubS F (erase F a) := by
  intro b v e q
  have z : b ≠ a := fun z => by
    subst z
    rw [h] at e
    cases e
    rcases hu with ⟨ws, rfl⟩ | ⟨ys, rfl⟩ <;> exact q
  rw [erase_ne z]; exact e
theorem Own.toLck {a : Addr} {d : D} {u : HO} (od : Obj) (h : Own wd K mg F α H a d) (hF : F a = none) (hu : H a = some u) (hl : Lkd wd a u) (hd : (∃ kvs, d = .dct kvs) ∨ ∃ kvs, d = .dcn kvs) :
    Own wd K mg (upd F a (.frz od u)) α (upd H a (.frz od u)) a (.lck d) := by
  have sb : Sub F (upd F a (.frz od u)) := Sub.new hF
  rcases hd with ⟨kvs, rfl⟩ | ⟨kvs, rfl⟩
  · obtain ⟨ws, h1, h2, h3⟩ := h
    rw [hu] at h1
    cases h1
    have h4 := h3.mono (β := []) sb
    rw [List.append_nil] at h4
    exact ⟨od, ws, upd_same, upd_same, h2, h4⟩
  · obtain ⟨xs, h1, h2⟩ := h
    rw [hu] at h1
    cases h1
    have h4 := h2.mono (β := []) sb
    rw [List.append_nil] at h4
    exact ⟨od, xs, upd_same, upd_same, h4⟩
/-- the thing at k is locked -/
theorem Rel.lock (r : Rel wd K mg α F H S) {k : Nat} {a : Addr} {u : HO} {d : D} (od : Obj) (h1 : α[k]? = some a) (h2 : S[k]? = some d) (hd : (∃ kvs, d = .dct kvs) ∨ ∃ kvs, d = .dcn kvs) (hu : H a = some u) (hl : Lkd wd a u) :
    Rel wd K mg α (upd F a (.frz od u)) (upd H a (.frz od u)) (S.set k (.lck d)) ∧ Sub F (upd F a (.frz od u)) ∧ F a = none := by
  obtain ⟨o1, o2⟩ := r.own k a d h1 h2
  have hF : F a = none := o2 (by rcases hd with ⟨_, rfl⟩ | ⟨_, rfl⟩ <;> rfl)
  have sb : Sub F (upd F a (.frz od u)) := Sub.new hF
  have hn := r.nd
  refine ⟨⟨fun b v e => ?_, by rw [List.length_set]; exact r.len, r.nd, fun b hb => ?_, fun j b e g1 g2 => ?_⟩, sb, hF⟩
  · by_cases z : b = a
    · subst z; rw [upd_same] at e ⊢; exact e
    · rw [upd_ne z] at e ⊢; exact r.sub _ _ e
  · by_cases z : b = a
    · subst z; exact ⟨_, upd_same⟩
    · obtain ⟨v, e⟩ := r.here b hb
      exact ⟨v, by rw [upd_ne z]; exact e⟩
  · by_cases z : j = k
    · subst z
      rw [h1] at g1; cases g1
      rw [List.getElem?_set_self (List.getElem?_eq_some_iff.mp h2).1] at g2
      cases g2
      exact ⟨Own.toLck od o1 hF hu hl hd, fun z => by cases z⟩
    · rw [List.getElem?_set_ne (Ne.symm z)] at g2
      obtain ⟨h3, h4⟩ := r.own j b e g1 g2
      have y : b ≠ a := fun y => by
        subst y
        exact z ((List.getElem_inj hn).mp ((List.getElem?_eq_some_iff.mp g1).2.trans (List.getElem?_eq_some_iff.mp h1).2.symm))
      have h5 := h3.mono (β := []) (H' := upd H a (.frz od u)) sb (upd_ne y)
      rw [List.append_nil] at h5
      exact ⟨h5, fun hd => by rw [upd_ne y]; exact h4 hd⟩
/-- and let go again -/
theorem Rel.unlock (r : Rel wd K mg α F H S) {k : Nat} {a : Addr} {u : HO} {od : Obj} {d : D} (h1 : α[k]? = some a) (h2 : S[k]? = some (.lck d)) (hF : F a = some (.frz od u)) (hl : Lkd wd a u) :
    Rel wd K mg α (erase F a) (upd H a u) (S.set k d) := by
  have st : SubS F (erase F a) := erase_stay hF hl
  have hH : H a = some (.frz od u) := r.sub _ _ hF
  have hn := r.nd
  refine ⟨fun b v e => ?_, by rw [List.length_set]; exact r.len, r.nd, fun b hb => ?_, fun j b e g1 g2 => ?_⟩
  · by_cases z : b = a
    · subst z; rw [erase_same] at e; cases e
    · rw [erase_ne z] at e; rw [upd_ne z]; exact r.sub _ _ e
  · by_cases z : b = a
    · subst z; exact ⟨_, upd_same⟩
    · obtain ⟨v, e⟩ := r.here b hb
      exact ⟨v, by rw [upd_ne z]; exact e⟩
  · by_cases z : j = k
    · subst z
      rw [h1] at g1; cases g1
      rw [List.getElem?_set_self (List.getElem?_eq_some_iff.mp h2).1] at g2
      cases g2
      obtain ⟨o1, _⟩ := r.own j a _ h1 h2
      refine ⟨?_, fun _ => erase_same⟩
      cases d with
      | dct kvs =>
        obtain ⟨o, ws, q0, q1, q2, q3⟩ := o1
        rw [hF] at q0
        cases q0
        exact ⟨ws, upd_same, q2, q3.stay st⟩
      | dcn kvs =>
        obtain ⟨o, xs, q0, q1, q2⟩ := o1
        rw [hF] at q0
        cases q0
        exact ⟨xs, upd_same, q2.stay st⟩
      | _ => exact o1.elim
    · rw [List.getElem?_set_ne (Ne.symm z)] at g2
      obtain ⟨h3, h4⟩ := r.own j b e g1 g2
      have y : b ≠ a := fun y => by
        subst y
        exact z ((List.getElem_inj hn).mp ((List.getElem?_eq_some_iff.mp g1).2.trans (List.getElem?_eq_some_iff.mp h1).2.symm))
      refine ⟨?_, fun hd => by rw [erase_ne y]; exact h4 hd⟩
      cases e with
      | lst ds => obtain ⟨xs, q1, q2⟩ := h3; exact ⟨xs, by rw [upd_ne y]; exact q1, q2.stay st⟩
      | dct kvs => obtain ⟨ws, q1, q2, q3⟩ := h3; exact ⟨ws, by rw [upd_ne y]; exact q1, q2, q3.stay st⟩
      | dcn kvs => obtain ⟨ws, q1, q2⟩ := h3; exact ⟨ws, by rw [upd_ne y]; exact q1, q2.stay st⟩
      | lck e =>
        cases e with
        | dct kvs => obtain ⟨o, ws, q0, q1, q2, q3⟩ := h3; exact ⟨o, ws, by rw [erase_ne y]; exact q0, by rw [upd_ne y]; exact q1, q2, q3.stay st⟩
        | dcn kvs => obtain ⟨o, ws, q0, q1, q2⟩ := h3; exact ⟨o, ws, by rw [erase_ne y]; exact q0, by rw [upd_ne y]; exact q1, q2.stay st⟩
        | _ => exact h3.elim
      | non => trivial
      | lam _ _ _ _ _ => obtain ⟨q0, ps, q1, q2, q3⟩ := h3; exact ⟨q0, ps, by rw [upd_ne y]; exact q1, q2, fun pos cv hc => (q3 pos cv hc).imp fun c hc => ⟨hc.1, st _ _ hc.2 trivial⟩⟩
      | exc c fs => obtain ⟨dx, vs, q1, q2, q3⟩ := h3; exact ⟨dx, vs, by rw [upd_ne y]; exact q1, q2, q3.stay st⟩
      | _ => exact h3.elim
theorem Stp.lock {a : Addr} {u : HO} {od : Obj} {F2 H2 : Hp} (s : Stp α (upd F a (.frz od u)) (upd H a (.frz od u)) β F2 H2) (hF : F a = none) (hu : H a = some u) (ha : a ∈ α) : Stp α F H β (erase F2 a) (upd H2 a u) := by
  refine ⟨fun b hb => upd_none (s.new b hb), fun b v e => ?_, fun b o hb e => ?_, fun b e => ?_, fun b h1 h2 h3 => ?_⟩
  · have z : b ≠ a := fun z => by subst z; rw [hF] at e; cases e
    rw [erase_ne z]
    exact s.sub _ _ (by rw [upd_ne z]; exact e)
  · have z : b ≠ a := fun z => hb (z ▸ ha)
    rw [upd_ne z]
    exact s.frame b o hb (by rw [upd_ne z]; exact e)
  · have z : b ≠ a := fun z => by subst z; rw [upd_same] at e; cases e
    rw [upd_ne z] at e
    have := s.live b e
    rw [upd_ne z] at this
    exact this
  · have z : b ≠ a := fun z => h1 (z ▸ ha)
    rw [erase_ne z]
    exact s.fnew b h1 (by rw [upd_ne z]; exact h2) (by rw [upd_ne z]; exact h3)
theorem Slots.stay {σ : L2.St} {δ : Sl} (s : SubS F F') (h : Slots wd K mg F α σ δ) : Slots wd K mg F' α σ δ := ⟨h.1, fun i d e => let ⟨v, h1, h2⟩ := h.2 i d e; ⟨v, h1, h2.stay s⟩⟩
end
/-- the dict that slot i holds, if it is open -/
def lockAt (δ : Sl) (S : Sto) (i : Nat) : Option (Nat × D) := match δ[i]? with
  | some (some (.ptr k)) => (match S[k]? with
    | some (.dct kvs) => some (k, .dct kvs)
    | some (.dcn kvs) => some (k, .dcn kvs)
    | _ => none)
  | _ => none
def unlk (k : Nat) (S : Sto) : Option Sto := match S[k]? with
  | some (.lck d) => some (S.set k d)
  | _ => none
def unlkO (k : Nat) : Out → Out
  | .nx δ S => (match unlk k S with | some S' => .nx δ S' | none => .stuck)
  | .rt d S => (match unlk k S with | some S' => .rt d S' | none => .stuck)
  | .bk δ S => (match unlk k S with | some S' => .bk δ S' | none => .stuck)
  | .ct δ S => (match unlk k S with | some S' => .ct δ S' | none => .stuck)
  | o => o
/-- the dict of slot i is locked meanwhile -/
def sLock (i : Nat) (r : RS) : RS := fun δ S => match lockAt δ S i with
  | some (k, d) => unlkO k (r δ (S.set k (.lck d)))
  | none => r δ S
section
variable {X : Cx} {W : WX} {st : Stmt} {e : Expr} {r : RS} {ra : RE} {wd : World} {K : Fg} {mg : Str → Option Value} {α β : List Addr} {F F' H H1 : Hp} {S : Sto}
/-- locked, or not -/
def tMay (t : TS) : TS := fun D σ H => t D σ H ∨ tLock t D σ H
theorem ps_may {t : TS} (h : PS X st t) : PS X st (tMay t) := ⟨fun pins s σ H D I q => q.elim (h.run pins s σ H D I) ((ps_lock h).run pins s σ H D I)⟩
theorem psd_lock (i : Nat) (h : PSd X W st r) : PSd X W st (sLock i r) := by
  obtain ⟨t, p1, s1⟩ := h.ex
  refine ⟨_, ps_may p1, fun α F σ H δ S E hr hs q => ?_⟩
  unfold sLock at q
  split at q
  · rename_i k d e1
    refine .inr ?_
    unfold lockAt at e1
    split at e1
    · rename_i k' e2
      obtain ⟨v, g1, g2⟩ := hs.2 i _ e2
      cases g2 with
      | @ptr _ a ea =>
        have key : ∃ d', S[k']? = some d' ∧ k = k' ∧ d = d' ∧ ((∃ kvs, d' = .dct kvs) ∨ ∃ kvs, d' = .dcn kvs) := by
          split at e1
          · rename_i kvs e3; cases e1; exact ⟨_, e3, rfl, rfl, .inl ⟨_, rfl⟩⟩
          · rename_i kvs e3; cases e1; exact ⟨_, e3, rfl, rfl, .inr ⟨_, rfl⟩⟩
          · cases e1
        obtain ⟨d', e3, rfl, rfl, hd⟩ := key
        clear e1
        obtain ⟨o1, o2⟩ := hr.own _ _ _ ea e3
        obtain ⟨u, hu, hl⟩ : ∃ u, H a = some u ∧ Lkd X.w a u := by
          rcases hd with ⟨kvs, rfl⟩ | ⟨kvs, rfl⟩
          · obtain ⟨ws, q1, _⟩ := o1; exact ⟨_, q1, .inl ⟨ws, rfl⟩⟩
          · obtain ⟨xs, q1, _⟩ := o1; exact ⟨_, q1, .inr ⟨xs, rfl⟩⟩
        refine ⟨a, u, hu, hl.mut, fun od => ?_⟩
        obtain ⟨r1, sb, hF⟩ := hr.lock od ea e3 hd hu hl
        have hs1 := hs.mono (β := []) sb
        rw [List.append_nil] at hs1
        have ha : a ∈ α := List.mem_of_getElem? ea
        refine s1 α _ σ _ δ _ _ r1 hs1 ?_
        have fin : ∀ {S' : Sto} {β : List Addr} {F' H' : Hp}, Rel X.w X.K X.mg (α ++ β) F' H' S' → Stp α (upd F a (.frz od u)) (upd H a (.frz od u)) β F' H' → ∀ S2, unlk k S' = some S2 →
            H' a = some (.frz od u) ∧ Rel X.w X.K X.mg (α ++ β) (erase F' a) (upd H' a u) S2 ∧ Stp α F H β (erase F' a) (upd H' a u) ∧ SubS F' (erase F' a) := by
          intro S' β F' H' r2 st2 S2 e4
          have f1 : F' a = some (.frz od u) := st2.sub _ _ upd_same
          unfold unlk at e4
          split at e4
          · rename_i d2 e5
            cases e4
            exact ⟨r2.sub _ _ f1, r2.unlock (at_app ea) e5 f1 hl, st2.lock hF hu ha, erase_stay f1 hl⟩
          · cases e4
        cases c : r δ (S.set k (.lck d)) with
        | nx δ' S' =>
          rw [c] at q
          intro σ' H' β F' r2 st2 sl2
          unfold unlkO at q
          dsimp only at q
          split at q
          · rename_i S2 e4
            obtain ⟨f1, f2, f3, f4⟩ := fin r2 st2 S2 e4
            exact ⟨f1, q _ _ _ _ f2 f3 (sl2.stay f4)⟩
          · exact q.elim
        | rt v S' =>
          rw [c] at q
          intro σ' H' β F' r2 st2 sl2
          unfold unlkO at q
          dsimp only at q
          split at q
          · rename_i S2 e4
            obtain ⟨f1, f2, f3, f4⟩ := fin r2 st2 S2 e4
            exact ⟨f1, q _ _ _ _ f2 f3 (sl2.stay f4)⟩
          · exact q.elim
        | bk δ' S' =>
          rw [c] at q
          intro σ' H' β F' r2 st2 sl2
          unfold unlkO at q
          dsimp only at q
          split at q
          · rename_i S2 e4
            obtain ⟨f1, f2, f3, f4⟩ := fin r2 st2 S2 e4
            exact ⟨f1, q _ _ _ _ f2 f3 (sl2.stay f4)⟩
          · exact q.elim
        | ct δ' S' =>
          rw [c] at q
          intro σ' H' β F' r2 st2 sl2
          unfold unlkO at q
          dsimp only at q
          split at q
          · rename_i S2 e4
            obtain ⟨f1, f2, f3, f4⟩ := fin r2 st2 S2 e4
            exact ⟨f1, q _ _ _ _ f2 f3 (sl2.stay f4)⟩
          · exact q.elim
        | err cl fs δ' S' =>
          rw [c] at q
          intro cls dd σ' H' β F' r2 st2 sl2 er
          refine q cls dd σ' H' β F' r2 ⟨fun b hb => upd_none (st2.new b hb), sb.trans st2.sub, fun b o hb e => ?_, fun b e => upd_none (st2.live b e), fun b h1 h2 h3 => ?_⟩ sl2 er
          · have z : b ≠ a := fun z => hb (z ▸ ha)
            exact st2.frame b o hb (by rw [upd_ne z]; exact e)
          · have z : b ≠ a := fun z => h1 (z ▸ ha)
            exact st2.fnew b h1 (by rw [upd_ne z]; exact h2) (by rw [upd_ne z]; exact h3)
        | stuck => rw [c] at q; exact q.elim
    · cases e1
  · exact .inl (s1 α F σ H δ S E hr hs q)
/-- what is never reached -/
def rNever : RE := fun _ _ => .stuck
theorem pd_never : PD X W e rNever := ⟨fun _ _ _ => False, ⟨fun _ _ _ _ _ _ h => h.elim⟩, fun α F σ H δ S Q hr hs h => h⟩
end
end DL
set_option Elab.async false
set_option linter.all false
set_option maxRecDepth 100000
set_option maxHeartbeats 4000000
set_option autoImplicit false
/-! Data layer: order of data, sorting, the greatest and the least. -/
namespace DL
open PySem PySem.Spec PyProof.Rows L2
def notNone : PyData → Bool
  | .none => false
  | _ => true
/-- two data that may be compared -/
def twoD (S : Sto) (d e : D) : Option (PyData × PyData) := match toPy S (deref S d), toPy S (deref S e) with
  | some x, some y => if PySem.W.alike x y && (notNone x && decide (x.depth ≤ 40)) then some (x, y) else none
  | _, _ => none
def gLtU : Sto → D → D → Option D := fun S d e => match d, e with
  | .int i, .int j => some (.bl (decide (i < j)))
  | _, _ => (twoD S d e).map fun p => .bl (PySem.W.dataLt p.1 p.2)
def gLeU : Sto → D → D → Option D := fun S d e => match d, e with
  | .int i, .int j => some (.bl (decide (i ≤ j)))
  | _, _ => (twoD S d e).map fun p => .bl (!PySem.W.dataLt p.2 p.1)
def gGtU : Sto → D → D → Option D := fun S d e => match d, e with
  | .int i, .int j => some (.bl (decide (j < i)))
  | _, _ => (twoD S d e).map fun p => .bl (PySem.W.dataLt p.2 p.1)
def gGeU : Sto → D → D → Option D := fun S d e => match d, e with
  | .int i, .int j => some (.bl (decide (j ≤ i)))
  | _, _ => (twoD S d e).map fun p => .bl (!PySem.W.dataLt p.1 p.2)
def rCmp (K : Fg) (f : PyData → PyData → Bool) : R2 := fun x y H Q => ∃ d e, Dp K H x d ∧ Dp K H y e ∧ PySem.W.alike d e = true ∧ d ≠ .none ∧ d.depth ≤ 40 ∧ Q (.bl (f d e)) H
section
variable {X : Cx}
theorem op_ltU (hu : X.A.units + 64 < cLine) : OpR X (compareOp .Lt) (rCmp X.K PySem.W.dataLt) := by
  intro pins s σ H x y v u Q I rx ry h
  obtain ⟨d, e, hd, he, al, nn, dp, q⟩ := h
  obtain ⟨as, r1⟩ := Dp.reads I d x v hd rx
  obtain ⟨bs, r2⟩ := Dp.reads I e y u he ry
  exact PySem.W.lt_data r1 r2 al nn (by omega) ⟨.bl _, H, I, rfl, q⟩
theorem op_leU (hu : X.A.units + 64 < cLine) : OpR X (compareOp .LtE) (rCmp X.K fun d e => !PySem.W.dataLt e d) := by
  intro pins s σ H x y v u Q I rx ry h
  obtain ⟨d, e, hd, he, al, nn, dp, q⟩ := h
  obtain ⟨as, r1⟩ := Dp.reads I d x v hd rx
  obtain ⟨bs, r2⟩ := Dp.reads I e y u he ry
  exact PySem.W.le_data r1 r2 al nn (by omega) ⟨.bl _, H, I, rfl, q⟩
theorem op_gtU (hu : X.A.units + 64 < cLine) : OpR X (compareOp .Gt) (rCmp X.K fun d e => PySem.W.dataLt e d) := by
  intro pins s σ H x y v u Q I rx ry h
  obtain ⟨d, e, hd, he, al, nn, dp, q⟩ := h
  obtain ⟨as, r1⟩ := Dp.reads I d x v hd rx
  obtain ⟨bs, r2⟩ := Dp.reads I e y u he ry
  exact PySem.W.gt_data r1 r2 al nn (by omega) ⟨.bl _, H, I, rfl, q⟩
theorem alike_int (i j : Int) : PySem.W.alike (.int i) (.int j) = true := by simp [PySem.W.alike]
theorem depth_int (i : Int) : (PyData.int i).depth ≤ 40 := by simp [PyData.depth]
theorem cmpU {f : PyData → PyData → Bool} {g : Sto → D → D → Option D} {op : CmpOp} {h : Int → Int → Bool} (ho : OpR X (compareOp op) (rCmp X.K f)) (hi : ∀ i j, f (.int i) (.int j) = h i j)
    (hg : ∀ S d e z, g S d e = some z → (∃ i j, d = .int i ∧ e = .int j ∧ z = .bl (h i j)) ∨ ∃ p, twoD S d e = some p ∧ z = .bl (f p.1 p.2)) : OpG X (compareOp op) g := by
  refine ⟨_, ho, fun α F H S x y d e z Q hr hx hy hz q => ?_⟩
  rcases hg S d e z hz with ⟨i, j, rfl, rfl, rfl⟩ | ⟨p, h1, rfl⟩
  · cases hx; cases hy
    refine ⟨.int i, .int j, .int i, .int j, alike_int i j, by simp, depth_int i, ?_⟩
    rw [hi]
    exact fin_now hr (.bl _) q
  · unfold twoD at h1
    split at h1
    · rename_i x' y' e1 e2
      split at h1
      · rename_i hc
        cases h1
        rw [Bool.and_eq_true, Bool.and_eq_true] at hc
        exact ⟨x', y', hr.dp hx e1, hr.dp hy e2, hc.1, (by intro z; subst z; exact absurd hc.2.1 (by decide)), of_decide_eq_true hc.2.2, fin_now hr (.bl _) q⟩
      · cases h1
    · cases h1
theorem g_ltU (hu : X.A.units + 64 < cLine) : OpG X (compareOp .Lt) gLtU := cmpU (op_ltU hu) (h := fun i j => decide (i < j)) (fun i j => PySem.W.dataLt_int i j) fun S d e z hz => by
  unfold gLtU at hz
  split at hz
  · cases hz; exact .inl ⟨_, _, rfl, rfl, rfl⟩
  · obtain ⟨p, h1, h2⟩ := Option.map_eq_some_iff.mp hz
    exact .inr ⟨p, h1, h2.symm⟩
theorem g_gtU (hu : X.A.units + 64 < cLine) : OpG X (compareOp .Gt) gGtU := cmpU (op_gtU hu) (h := fun i j => decide (j < i)) (fun i j => PySem.W.dataLt_int j i) fun S d e z hz => by
  unfold gGtU at hz
  split at hz
  · cases hz; exact .inl ⟨_, _, rfl, rfl, rfl⟩
  · obtain ⟨p, h1, h2⟩ := Option.map_eq_some_iff.mp hz
    exact .inr ⟨p, h1, h2.symm⟩
theorem not_lt_le (i j : Int) : (!decide (j < i)) = decide (i ≤ j) := by
  by_cases h : j < i
  · rw [decide_eq_true h, decide_eq_false (by omega)]; rfl
  · rw [decide_eq_false h, decide_eq_true (by omega)]; rfl
theorem g_leU (hu : X.A.units + 64 < cLine) : OpG X (compareOp .LtE) gLeU := cmpU (op_leU hu) (h := fun i j => decide (i ≤ j)) (fun i j => by rw [PySem.W.dataLt_int]; exact not_lt_le i j) fun S d e z hz => by
  unfold gLeU at hz
  split at hz
  · cases hz; exact .inl ⟨_, _, rfl, rfl, rfl⟩
  · obtain ⟨p, h1, h2⟩ := Option.map_eq_some_iff.mp hz
    exact .inr ⟨p, h1, h2.symm⟩
end
/-! ### sorting -/
def tupFull : PyData → Bool
  | .tuple (_ :: _) => true
  | _ => false
def noTup : PyData → Bool
  | .none => false
  | .tuple _ => false
  | _ => true
def sortable (ps : List PyData) : Bool := (ps.all tupFull || ps.all noTup) && ((ps.all fun x => ps.all fun y => PySem.W.alike x y) && ps.all fun x => decide (x.depth ≤ 40))
def sortBy {A : Type} (xs : List A) (ps : List PyData) : List A := ((xs.zip ps).mergeSort (PySem.W.dataLe false (·.2))).map (·.1)
def sortD (S : Sto) (xs : List D) : Option (List D) := match toPys S xs with
  | some ps => if sortable ps && decide (xs.length ≤ sizeLine) then some (sortBy xs ps) else none
  | none => none
theorem sortBy_length {A : Type} {xs : List A} {ps : List PyData} (h : xs.length = ps.length) : (sortBy xs ps).length = xs.length := by
  unfold sortBy
  rw [List.length_map, List.length_mergeSort, List.length_zip, h, Nat.min_self]
section
open PySem.W
variable {wd : World} {K : Fg} {mg : Str → Option Value} {α β : List Addr} {F F1 H H1 : Hp} {S : Sto}
theorem zip_each {A B : Type} {R : A → B → Prop} : ∀ {as : List A} {bs : List B} (ps : List PyData), EachIs R as bs → EachIs (fun (x : A × PyData) (y : B × PyData) => R x.1 y.1 ∧ x.2 = y.2) (as.zip ps) (bs.zip ps)
  | _, _, _, .nil => .nil
  | _, _, [], .cons _ _ => .nil
  | _, _, p :: ps, .cons h t => .cons ⟨h, rfl⟩ (zip_each ps t)
theorem each_map2 {A B A' B' : Type} {R : A → B → Prop} {R' : A' → B' → Prop} (f : A → A') (g : B → B') (h : ∀ a b, R a b → R' (f a) (g b)) : ∀ {as : List A} {bs : List B}, EachIs R as bs → EachIs R' (as.map f) (bs.map g)
  | _, _, .nil => .nil
  | _, _, .cons a t => .cons (h _ _ a) (each_map2 f g h t)
/-- things sorted by the same data -/
theorem sortBy_each {A B : Type} {R : A → B → Prop} {as : List A} {bs : List B} (ps : List PyData) (h : EachIs R as bs) : EachIs R (sortBy as ps) (sortBy bs ps) := by
  unfold sortBy
  have z := zip_each ps h
  refine each_map2 (·.1) (·.1) (fun a b q => q.1) (sort_each z ?_)
  intro p hp q hq
  have e1 := (EachIs.zip z p hp).2
  have e2 := (EachIs.zip z q hq).2
  unfold dataLe sortLe
  dsimp only
  rw [e1, e2]
theorem each_dvs : ∀ {us : List V} {ds : List D}, EachIs (fun v d => DV wd K mg F α v d) us ds → DVs wd K mg F α us ds
  | _, _, .nil => .nil
  | _, _, .cons h t => .cons h (each_dvs t)
theorem dvs_each : ∀ {us : List V} {ds : List D}, DVs wd K mg F α us ds → EachIs (fun v d => DV wd K mg F α v d) us ds
  | _, _, .nil => .nil
  | _, _, .cons h t => .cons h (dvs_each t)
theorem DVs.sort {us : List V} {ds : List D} (h : DVs wd K mg F α us ds) (ps : List PyData) : DVs wd K mg F α (sortBy us ps) (sortBy ds ps) := each_dvs (sortBy_each ps (dvs_each h))
end
section
open PySem.W
variable {X : Cx} {W : WX} {a b c e tg : Expr} {es rest : List Expr} {ra rb rc : RE} {rs : RA} {pos p : Pos}
theorem each_vals : ∀ {us : List V} {vs : List Value}, EachIs (fun u v => RelV v u) vs us → Vals us vs
  | _, _, .nil => .nil
  | _, _, .cons h t => .cons h (each_vals t)
/-- by a call of a built-in -/
theorem pf_callB {x : Str} {T : String} {g : Sto → List D → Option D} {r : List V → Hp → VK → Prop} (hc : CallR X (.builtin T) r) (hgk : ∀ α F H S xs ds z Q, Rel X.w X.K X.mg α F H S → DVs X.w X.K X.mg F α xs ds → g S ds = some z → ∃ es us, z = .lst es ∧ DVs X.w X.K X.mg F α us es ∧ (Lays H us Q → r xs H Q))
    (hm : X.mg x = none) (ha : PDs X W (e :: es) rs) (hg : Gl X x := by rfl) (hv : bootBuiltins x = some (.builtin T) := by decide +kernel) (hn : x ≠ "__name__" := by decide) (hdb : (x == ("__debug__" : Str)) = false := by decide)
    (he : starEach (e :: es) X.env = (false, eval e X.env) :: starEach es X.env := by rfl) (hpl : (backTo pos (starEach es X.env)).any (·.1) = false := by rfl) : PF X W (.Call (.Name x p) (e :: es) [] pos) (rAs g rs) := by
  obtain ⟨t, pt, st⟩ := ha.ex
  refine ⟨_, pe_callB hc hg hm hv pt hn hdb he hpl, fun α F σ H δ S Q hr hs h => ?_⟩
  refine st α F σ H δ S _ hr hs (wpF.bind h fun ds S1 _ xs H1 β F1 r1 q1 v1 h1 => ?_)
  cases eg : g S1 ds with
  | none => rw [eg] at h1; exact h1.elim
  | some z =>
    rw [eg] at h1
    obtain ⟨es', us, rfl, e1, e2⟩ := hgk _ F1 H1 S1 xs ds z Q r1 v1 eg
    exact e2 fun p hp => wpF.lay h1 r1 hp ⟨us, upd_same, e1⟩ rfl
end
/-! ### the greatest and the least of numbers -/
def maxI : List Int → Option Int
  | [] => none
  | i :: r => some (r.foldl max i)
def minI : List Int → Option Int
  | [] => none
  | i :: r => some (r.foldl min i)
theorem foldl_max : ∀ (r : List Int) (i : Int), (r.foldl max i = i ∨ r.foldl max i ∈ r) ∧ i ≤ r.foldl max i ∧ ∀ y ∈ r, y ≤ r.foldl max i
  | [], i => ⟨.inl rfl, by simp, fun _ h => nomatch h⟩
  | a :: r, i => by
    obtain ⟨h1, h2, h3⟩ := foldl_max r (max i a)
    rw [List.foldl_cons]
    refine ⟨?_, by omega, fun y hy => ?_⟩
    · rcases h1 with h1 | h1
      · rcases Int.le_total i a with h | h
        · right; rw [h1, Int.max_eq_right h]; exact List.mem_cons_self
        · left; rw [h1, Int.max_eq_left h]
      · exact .inr (List.mem_cons_of_mem _ h1)
    · rcases List.mem_cons.mp hy with rfl | hy
      · omega
      · exact h3 y hy
theorem foldl_min : ∀ (r : List Int) (i : Int), (r.foldl min i = i ∨ r.foldl min i ∈ r) ∧ r.foldl min i ≤ i ∧ ∀ y ∈ r, r.foldl min i ≤ y
  | [], i => ⟨.inl rfl, by simp, fun _ h => nomatch h⟩
  | a :: r, i => by
    obtain ⟨h1, h2, h3⟩ := foldl_min r (min i a)
    rw [List.foldl_cons]
    refine ⟨?_, by omega, fun y hy => ?_⟩
    · rcases h1 with h1 | h1
      · rcases Int.le_total i a with h | h
        · left; rw [h1, Int.min_eq_left h]
        · right; rw [h1, Int.min_eq_right h]; exact List.mem_cons_self
      · exact .inr (List.mem_cons_of_mem _ h1)
    · rcases List.mem_cons.mp hy with rfl | hy
      · omega
      · exact h3 y hy
theorem maxI_of {ns : List Int} {m : Int} (h1 : m ∈ ns) (h2 : ∀ y ∈ ns, y ≤ m) : maxI ns = some m := by
  cases ns with
  | nil => cases h1
  | cons i r =>
    obtain ⟨g1, g2, g3⟩ := foldl_max r i
    have a : m ≤ r.foldl max i := by
      rcases List.mem_cons.mp h1 with rfl | h
      · exact g2
      · exact g3 m h
    have b : r.foldl max i ≤ m := by
      rcases g1 with g | g
      · rw [g]; exact h2 i List.mem_cons_self
      · exact h2 _ (List.mem_cons_of_mem _ g)
    exact congrArg some (Int.le_antisymm b a)
theorem minI_of {ns : List Int} {m : Int} (h1 : m ∈ ns) (h2 : ∀ y ∈ ns, m ≤ y) : minI ns = some m := by
  cases ns with
  | nil => cases h1
  | cons i r =>
    obtain ⟨g1, g2, g3⟩ := foldl_min r i
    have a : r.foldl min i ≤ m := by
      rcases List.mem_cons.mp h1 with rfl | h
      · exact g2
      · exact g3 m h
    have b : m ≤ r.foldl min i := by
      rcases g1 with g | g
      · rw [g]; exact h2 i List.mem_cons_self
      · exact h2 _ (List.mem_cons_of_mem _ g)
    exact congrArg some (Int.le_antisymm a b)
def gMax : Sto → List D → Option D := fun S ds => match ds with
  | [d] => (match deref S d with
    | .lst xs => (asInts xs).bind fun ns => (maxI ns).map .int
    | _ => none)
  | [.int i, .int j] => some (.int (if j > i then j else i))
  | _ => none
def gMin : Sto → List D → Option D := fun S ds => match ds with
  | [d] => (match deref S d with
    | .lst xs => (asInts xs).bind fun ns => (minI ns).map .int
    | _ => none)
  | [.int i, .int j] => some (.int (if j < i then j else i))
  | _ => none
section
variable {X : Cx}
theorem b_max (hc : X.calm = true) : BiG X (.builtin "max") gMax := by
  refine ⟨_, (cr_max hc).or (call_max2 hc), fun α F H S xs ds z Q hr hv hz q => ?_⟩
  unfold gMax at hz
  split at hz
  · cases hv with
    | cons h1 h2 =>
      cases h2
      split at hz
      · rename_i ys e1
        obtain ⟨ns, e2, e3⟩ := Option.bind_eq_some_iff.mp hz
        obtain ⟨m, e4, rfl⟩ := Option.map_eq_some_iff.mp e3
        obtain ⟨l, us, rfl, a1, a2⟩ := hr.viewL h1 e1
        have := asInts_eq e2
        subst this
        have := DVs.ints a2
        subst this
        refine .inl ⟨l, ns, rfl, a1, ?_, fun m' g1 g2 => ?_⟩
        · cases ns with
          | nil => cases e4
          | cons _ _ => exact Nat.succ_pos _
        · rw [maxI_of g1 g2] at e4
          cases e4
          exact fin_now hr (.int _) q
      · cases hz
  · cases hz
    cases hv with
    | cons h1 h2 => cases h2 with
      | cons h2 h3 => cases h1; cases h2; cases h3; exact .inr ⟨_, _, rfl, fin_now hr (.int _) q⟩
  · cases hz
theorem b_min (hc : X.calm = true) : BiG X (.builtin "min") gMin := by
  refine ⟨_, (cr_min hc).or (call_min2 hc), fun α F H S xs ds z Q hr hv hz q => ?_⟩
  unfold gMin at hz
  split at hz
  · cases hv with
    | cons h1 h2 =>
      cases h2
      split at hz
      · rename_i ys e1
        obtain ⟨ns, e2, e3⟩ := Option.bind_eq_some_iff.mp hz
        obtain ⟨m, e4, rfl⟩ := Option.map_eq_some_iff.mp e3
        obtain ⟨l, us, rfl, a1, a2⟩ := hr.viewL h1 e1
        have := asInts_eq e2
        subst this
        have := DVs.ints a2
        subst this
        refine .inl ⟨l, ns, rfl, a1, ?_, fun m' g1 g2 => ?_⟩
        · cases ns with
          | nil => cases e4
          | cons _ _ => exact Nat.succ_pos _
        · rw [minI_of g1 g2] at e4
          cases e4
          exact fin_now hr (.int _) q
      · cases hz
  · cases hz
    cases hv with
    | cons h1 h2 => cases h2 with
      | cons h2 h3 => cases h1; cases h2; cases h3; exact .inr ⟨_, _, rfl, fin_now hr (.int _) q⟩
  · cases hz
end
end DL
set_option Elab.async false
set_option linter.all false
set_option maxRecDepth 100000
set_option maxHeartbeats 4000000
set_option autoImplicit false
/-! Data layer: dict() of pairs. -/
namespace DL
open PySem PySem.Spec PyProof.Rows L2
/-! ### by values -/
/-- tuples of two -/
def PairsV (K : Fg) (H : Hp) : List V → List (V × V) → Prop := Paired fun u pr => ∃ p, u = .ref p ∧ SqT K H p [pr.1, pr.2]
def mergeV (xs more : List (NestedKey × Addr × V)) : List (NestedKey × Addr × V) := more.foldl (fun acc x => putV acc x.1 x.2.1 x.2.2) xs
theorem NV.merge : ∀ {ys : List (NestedKey × Addr × V)} {ws : List (NestedKey × Addr × Value)}, NV ys ws → ∀ {xs : List (NestedKey × Addr × V)} {vs : List (NestedKey × Addr × Value)}, NV xs vs → NV (mergeV xs ys) (storedAllH vs ws) := by
  intro ys ws h
  unfold NV at h
  induction h with
  | nil => exact fun g => g
  | @cons a b l₁ l₂ r t ih =>
    intro xs vs g
    show NV (mergeV (putV xs a.1 a.2.1 a.2.2) l₁) (storedAllH (storedH vs b.1 b.2.1 b.2.2) l₂)
    have := g.put a.1 a.2.1 r.2.2
    rw [← r.1, ← r.2.1]
    exact ih this
theorem mergeV_length (ys : List (NestedKey × Addr × V)) : ∀ xs : List (NestedKey × Addr × V), (mergeV xs ys).length ≤ xs.length + ys.length := by
  induction ys with
  | nil => intro xs; exact Nat.le_refl _
  | cons y ys ih =>
    intro xs
    have := ih (putV xs y.1 y.2.1 y.2.2)
    have := putV_length xs y.1 y.2.1 y.2.2
    rw [List.length_cons]
    show (mergeV (putV xs y.1 y.2.1 y.2.2) ys).length ≤ _
    omega
section
variable {X : Cx} {pins : List (Addr × Obj)} {σ : L2.St} {H : Hp} {s : Shared}
theorem pairs_vals (I : Inv X pins σ H s) : ∀ {us : List V} {prs : List (V × V)} {vs : List Value}, PairsV X.K H us prs → Vals us vs →
    ∃ (Ts : List Addr) (ps : List (Value × Value)), vs = Ts.map Value.ref ∧ Ts.length = ps.length ∧ Paired (fun a b => RelV a.1 b.1 ∧ RelV a.2 b.2) prs ps ∧ ∀ (j : Nat) (k v : Value), ps[j]? = some (k, v) → ∃ t, Ts[j]? = some t ∧ IsTup s.heap t #[k, v]
  | _, _, _, .nil, r => by cases r; exact ⟨[], [], rfl, rfl, .nil, fun j k v e => by simp at e⟩
  | _, _, _, .cons (a := u) (b := pr) h t, r => by
    cases r with
    | @cons _ w _ vs r1 r2 =>
      obtain ⟨p, rfl, hp⟩ := h
      obtain rfl : w = Value.ref p := r1
      obtain ⟨Ts, ps, e1, e2, e3, e4⟩ := pairs_vals I t r2
      obtain ⟨its, rv, ht, _⟩ := I.tuple hp
      obtain ⟨k, v, ei, rk, rv'⟩ := vals2 rv
      subst ei
      refine ⟨p :: Ts, (k, v) :: ps, by rw [e1]; rfl, by rw [List.length_cons, List.length_cons, e2], .cons ⟨rk, rv'⟩ e3, fun j k' v' e => ?_⟩
      cases j with
      | zero => simp at e; obtain ⟨rfl, rfl⟩ := e; exact ⟨p, rfl, ht⟩
      | succ j => simp at e; obtain ⟨t', h1, h2⟩ := e4 j k' v' e; exact ⟨t', by simpa using h1, h2⟩
/-- what may be handed to dict() -/
def DArg (K : Fg) (H : Hp) (a : Addr) (us : List V) : Prop := SqL K H a us ∨ PlT K H a us
theorem darg_at (I : Inv X pins σ H s) {a : Addr} {us : List V} (h : DArg X.K H a us) : ∃ (T : String) (its : List Value), (T = "list" ∨ T = "tuple") ∧ Vals us its ∧ us.length ≤ sizeLine ∧ PlainSeq T s.heap a its.toArray := by
  rcases h with h | ⟨h, q⟩
  · obtain ⟨its, rv, ⟨o, n, ho, hc, hd, hdat⟩, hz⟩ := I.list h
    exact ⟨"list", its, .inl rfl, rv, hz, o, n, ho, hc, hd, hdat⟩
  · obtain ⟨its, rv, ⟨o, ho, hc, n, hdat⟩, hz⟩ := I.tuple h
    refine ⟨"tuple", its, .inr rfl, rv, hz, o, n, ho, hc, ?_, hdat⟩
    rcases q with ⟨o', e, hd⟩ | ⟨o', e, hd⟩
    · obtain ⟨e', _⟩ := I.hok a _ e
      rw [ho] at e'; cases e'; exact hd
    · rw [I.kIn _ _ e] at ho; cases ho; exact hd
theorem pairItems_of {Ts : List Addr} {ps : List (Value × Value)} (hl : Ts.length = ps.length) (h : ∀ (j : Nat) (k v : Value), ps[j]? = some (k, v) → ∃ t, Ts[j]? = some t ∧ IsTup s.heap t #[k, v]) : PairItems s.heap (Ts.map Value.ref).toArray (fun j => Ts.getD j 0) ps := by
  refine ⟨by simp [hl], fun j k v e => ?_⟩
  obtain ⟨t, h1, h2⟩ := h j k v e
  have e2 : Ts.getD j 0 = t := by rw [List.getD_eq_getElem?_getD, h1]; rfl
  dsimp only
  rw [e2]
  exact ⟨by simp [h1], .inl h2⟩
theorem dict_arg {T : String} {a : Addr} {Ts : List Addr} {ps : List (Value × Value)} (hT : T = "list" ∨ T = "tuple") :
    PairArg X.prog X.w T a (a :: (List.range ps.length).map fun j => Ts.getD j 0) [] ps.length (PairRel ps) (fun h => PlainSeq T h a (Ts.map Value.ref).toArray ∧ PairItems h (Ts.map Value.ref).toArray (fun j => Ts.getD j 0) ps) := by
  rcases hT with rfl | rfl
  · exact PairArg.list a _ _ ps
  · exact PairArg.tuple a _ _ ps
end
section
variable {X : Cx}
/-- dict(pairs), keys ints and texts -/
theorem cr_dictK (hc : X.calm = true) : CallR X (.type "dict") (fun xs H Q => ∃ (a : Addr) (us : List V) (kvs : List (Key × V)), xs = [.ref a] ∧ DArg X.K H a us ∧ PairsV X.K H us (kvs.map fun p => (kV p.1, p.2)) ∧ ∀ p, H p = none → Q (.ref p) (upd H p (.dK (mergeK [] kvs)))) := by
  intro pins s σ H xs vs Q I r q
  obtain ⟨a, us, kvs, rfl, ha, hp, q⟩ := q
  rw [Vals.ref1 r]
  obtain ⟨T, its, hT, rv, hz, pl⟩ := darg_at I ha
  obtain ⟨Ts, ps, rfl, hl, rel, hat⟩ := pairs_vals I hp rv
  obtain ⟨kvs', rel', hk'⟩ : ∃ kvs' : List (Key × Value), KV kvs kvs' ∧ ∀ (i : Nat) (key v : Value), ps[i]? = some (key, v) → ∃ k, kvs'[i]? = some (k, v) ∧ (mixKind X.prog X.w).is k key = true := by
    clear hat hl pl hp q rv
    generalize e : kvs.map (fun p => (kV p.1, p.2)) = prs at rel
    induction rel generalizing kvs with
    | nil =>
      cases kvs with
      | nil => exact ⟨[], .nil, fun i k v e => by simp at e⟩
      | cons _ _ => cases e
    | @cons pr p l₁ l₂ h t ih =>
      cases kvs with
      | nil => cases e
      | cons kv kvs =>
        cases e
        obtain ⟨kvs', h1, h2⟩ := ih kvs rfl
        refine ⟨(kv.1, p.2) :: kvs', .cons ⟨rfl, h.2⟩ h1, fun i key v e => ?_⟩
        cases i with
        | zero => simp at e; subst e; exact ⟨kv.1, rfl, kV_is h.1⟩
        | succ i => simp at e; obtain ⟨k, e1, e2⟩ := h2 i key v e; exact ⟨k, by simpa using e1, e2⟩
  have hlen : kvs'.length = ps.length := by
    have h1 := Paired.length rel'
    have h2 := Paired.length rel
    rw [List.length_map] at h2
    omega
  have hzp : ps.length ≤ sizeLine := by
    have := rv.length
    rw [List.length_map] at this
    omega
  refine PySem.call_dict_pairs (knd := mixKind X.prog X.w) (kvs := kvs') (dict_arg (X := X) (a := a) (Ts := Ts) (ps := ps) hT) (I.ok.hd hc) ⟨pl, pairItems_of hl hat⟩ ⟨hlen, hk'⟩ hzp fun h' tk hd' k => ?_
  have hm : (s.heap.objs.size == sysModules) = false := beq_eq_false_iff_ne.mpr (Nat.ne_of_gt I.big)
  have hl2 : (mergeK [] kvs).length ≤ sizeLine := by
    refine Nat.le_trans (length_mergeK kvs []) ?_
    have := Paired.length rel'
    rw [List.length_nil, Nat.zero_add]
    omega
  exact ⟨.ref s.heap.objs.size, upd H s.heap.objs.size (.dK (mergeK [] kvs)), I.laid (t' := tk) (fun b o e => k b o (by simp) e) (Nat.le_refl _) (show ObjOk X.prog X.w _ _ _ (.dK (mergeK [] kvs)) from ⟨hl2, hm, merged [] kvs', KV.merge rel' .nil, hd'⟩), rfl, q _ (I.hok.fresh (Nat.le_refl _))⟩
/-- dict(pairs), keys tuples -/
theorem cr_dictN (hc : X.calm = true) (hu : X.A.units + 12 < cLine) : CallR X (.type "dict") (fun vs H Q => ∃ (a : Addr) (us : List V) (xs : List (NestedKey × Addr × V)), vs = [.ref a] ∧ DArg X.K H a us ∧ NKeys X.K H xs ∧ PairsV X.K H us (xs.map fun x => (.ref x.2.1, x.2.2)) ∧ ∀ p, H p = none → Q (.ref p) (upd H p (dN X.w p (mergeV [] xs)))) := by
  intro pins s σ H vs0 vs Q I r q
  obtain ⟨a, us, xs, rfl, ha, hk, hp, q⟩ := q
  rw [Vals.ref1 r]
  obtain ⟨T, its, hT, rv, hz, pl⟩ := darg_at I ha
  obtain ⟨Ts, ps, rfl, hl, rel, hat⟩ := pairs_vals I hp rv
  obtain ⟨ys, rel', hk'⟩ : ∃ ys : List (NestedKey × Addr × Value), NV xs ys ∧ ∀ (i : Nat) (key v : Value), ps[i]? = some (key, v) → ∃ k b, ys[i]? = some (k, b, v) ∧ key = .ref b := by
    clear hat hl pl hp q rv hk
    generalize e : xs.map (fun x => (V.ref x.2.1, x.2.2)) = prs at rel
    induction rel generalizing xs with
    | nil =>
      cases xs with
      | nil => exact ⟨[], .nil, fun i k v e => by simp at e⟩
      | cons _ _ => cases e
    | @cons pr p l₁ l₂ h t ih =>
      cases xs with
      | nil => cases e
      | cons x xs =>
        cases e
        obtain ⟨ys, h1, h2⟩ := ih xs rfl
        refine ⟨(x.1, x.2.1, p.2) :: ys, .cons ⟨rfl, rfl, h.2⟩ h1, fun i key v e => ?_⟩
        cases i with
        | zero => simp at e; subst e; exact ⟨x.1, x.2.1, rfl, h.1⟩
        | succ i => simp at e; obtain ⟨k, b, e1, e2⟩ := h2 i key v e; exact ⟨k, b, by simpa using e1, e2⟩
  have hlen : ys.length = ps.length := by
    have h1 := rel'.length
    have h2 := Paired.length rel
    rw [List.length_map] at h2
    omega
  have hzp : ps.length ≤ sizeLine := by
    have := rv.length
    rw [List.length_map] at this
    omega
  have hst : KeysStay (nestedKind X.prog X.w) s.heap s.heap.objs.size [] ys := by
    intro h' kp x hx
    obtain ⟨i, hi⟩ := List.mem_iff_getElem?.mp hx
    obtain ⟨y, hy⟩ : ∃ y, xs[i]? = some y := ⟨_, List.getElem?_eq_getElem (by rw [rel'.length]; exact (List.getElem?_eq_some_iff.mp hi).1)⟩
    obtain ⟨z, hz, q1, q2, _⟩ := paired_get rel' hy
    rw [hi] at hz
    cases hz
    obtain ⟨k1, k2⟩ := hk y (List.mem_of_getElem? hy)
    rw [← q1, ← q2]
    exact ⟨NestedIs.at (fun b o vs n hb _ => kp b o (Nat.ne_of_lt (Heap.lt_size hb)) (by simp) hb) _ _ (NK.is I k1 rfl), k2⟩
  refine PySem.call_dict_pairsH (knd := nestedKind X.prog X.w) (ps := ys) (dict_arg (X := X) (a := a) (Ts := Ts) (ps := ps) hT) (I.ok.hd hc) (show X.A.units + 1 + 1 + 8 < cLine by omega) ⟨pl, pairItems_of hl hat⟩ ⟨hlen, hk'⟩ hst hzp fun h' tk hd' k => ?_
  have hm : (s.heap.objs.size == sysModules) = false := beq_eq_false_iff_ne.mpr (Nat.ne_of_gt I.big)
  have hl2 : (mergeV [] xs).length ≤ sizeLine := by
    have h1 := mergeV_length xs []
    have h2 := rel'.length
    rw [List.length_nil] at h1
    omega
  have rm := NV.merge rel' (xs := []) (vs := []) .nil
  obtain ⟨o, es, ep, g1, g2, g3, g4, _, g5⟩ := hd'
  have new : ObjOk X.prog X.w (upd H s.heap.objs.size (dN X.w s.heap.objs.size (mergeV [] xs))) h' s.heap.objs.size (dN X.w s.heap.objs.size (mergeV [] xs)) :=
    ⟨⟨hm, hl2, by rw [rm.keys]; exact g5, _, rm, o, es, ep, g1, g2, g3, g4⟩, ⟨o, g1⟩, fun z1 z2 ⟨p1, p2, p3, vs', p4, o', es', ep', p5, p6⟩ st => ⟨p1, p2, p3, vs', p4, o', es', ep', st _ p5, p6⟩⟩
  exact ⟨.ref s.heap.objs.size, _, I.laid (t' := tk) (fun b o e => k b o (by simp) e) (Nat.le_refl _) new, rfl, q _ (I.hok.fresh (Nat.le_refl _))⟩
end
/-! ### by data -/
def pairOf : D → Option (D × D)
  | .tup [k, v] => some (k, v)
  | _ => none
def pairsOf : List D → Option (List (D × D))
  | [] => some []
  | d :: r => match pairOf d, pairsOf r with
    | some p, some ps => some (p :: ps)
    | _, _ => none
def dictOf (kvs : List (D × D)) : Option D := if kvs.all (fun p => isKey p.1) then some (.dct (mergeD [] kvs)) else if kvs.all (fun p => isKeyN p.1) then some (.dcn (mergeN [] kvs)) else none
def gDict : Sto → List D → Option D := fun S ds => match ds with
  | [d] => (match deref S d with
    | .lst xs => (pairsOf xs).bind dictOf
    | .tup xs => (pairsOf xs).bind dictOf
    | .dct kvs => some (.dct kvs)
    | _ => none)
  | _ => none
section
variable {wd : World} {K : Fg} {mg : Str → Option Value} {α β : List Addr} {F F1 H H1 : Hp} {S : Sto}
/-- the pairs, by values -/
theorem pairs_see (s : Sub F H) : ∀ {us : List V} {ds : List D} {kvs : List (D × D)}, DVs wd K mg F α us ds → pairsOf ds = some kvs → ∃ prs : List (V × V), PairsV K H us prs ∧ DVs wd K mg F α (prs.map (·.1)) (kvs.map (·.1)) ∧ DVs wd K mg F α (prs.map (·.2)) (kvs.map (·.2))
  | _, [], kvs, h, e => by
    unfold pairsOf at e
    cases e
    cases h
    exact ⟨[], .nil, .nil, .nil⟩
  | _, d :: ds, kvs, h, e => by
    unfold pairsOf at e
    split at e
    · rename_i p ps e1 e2
      cases e
      cases h with
      | cons h1 h2 =>
        obtain ⟨prs, g1, g2, g3⟩ := pairs_see s h2 e2
        unfold pairOf at e1
        split at e1
        · cases e1
          cases h1 with
          | tup q t =>
            cases t with
            | cons t1 t2 => cases t2 with
              | cons t2 t3 =>
                cases t3
                exact ⟨(_, _) :: prs, .cons ⟨_, rfl, s.sqT q.1⟩ g1, .cons t1 g2, .cons t2 g3⟩
        · cases e1
    · cases e
theorem nkeysOf (s : Sub F H) : ∀ {kvs : List (D × D)} {prs : List (V × V)}, kvs.all (fun p => isKeyN p.1) = true → DVs wd K mg F α (prs.map (·.1)) (kvs.map (·.1)) → DVs wd K mg F α (prs.map (·.2)) (kvs.map (·.2)) →
    ∃ xs : List (NestedKey × Addr × V), prs = xs.map (fun x => (.ref x.2.1, x.2.2)) ∧ NVs wd K mg F α xs kvs
  | [], [], _, _, _ => ⟨[], rfl, .nil⟩
  | [], _ :: _, _, h, _ => by have := h.length; simp at this
  | _ :: _, [], _, h, _ => by have := h.length; simp at this
  | (q, d) :: kvs, (x, y) :: ps, hk, h, g => by
    rw [List.all_cons, Bool.and_eq_true] at hk
    have h' : DVs wd K mg F α (x :: ps.map (·.1)) (q :: kvs.map (·.1)) := h
    have g' : DVs wd K mg F α (y :: ps.map (·.2)) (d :: kvs.map (·.2)) := g
    cases h' with
    | cons h1 h2 =>
      cases g' with
      | cons g1 g2 =>
        obtain ⟨xs, e1, e2⟩ := nkeysOf s hk.2 h2 g2
        obtain ⟨ds, nk, eq, k1, k2⟩ := isKeyN_ex hk.1
        have eq : q = .tup ds := eq
        subst eq
        obtain ⟨b, rfl⟩ := DV.isRef h1
        exact ⟨(nk, b, y) :: xs, by rw [e1]; rfl, .cons k1 k2 h1 ⟨_, rfl⟩ g1 e2⟩
theorem NVs.merge {more : List (NestedKey × Addr × V)} {mk : List (D × D)} (g : NVs wd K mg F α more mk) : ∀ {xs : List (NestedKey × Addr × V)} {kvs : List (D × D)}, NVs wd K mg F α xs kvs → NVs wd K mg F α (mergeV xs more) (mergeN kvs mk) := by
  induction g with
  | nil => exact fun h => h
  | cons h1 h2 h3 h4 h5 _ ih => exact fun h => ih (h.put h1 h2 h3 h4 h5)
end
section
variable {X : Cx} {W : WX} {a b c e tg : Expr} {es rest : List Expr} {ra rb rc : RE} {rs : RA} {pos p : Pos}
/-- a thing that a class makes -/
theorem pf_callTG {x : Str} {T : String} {g : Sto → List D → Option D} {r : List V → Hp → VK → Prop} (hc : CallR X (.type T) r) (hgk : ∀ α F H S xs ds z Q, Rel X.w X.K X.mg α F H S → DVs X.w X.K X.mg F α xs ds → g S ds = some z → z.open = true ∧ ((∀ p o, H p = none → Own X.w X.K X.mg F α (upd H p o) p z → Q (.ref p) (upd H p o)) → r xs H Q))
    (hm : X.mg x = none) (ha : PDs X W (e :: es) rs) (hg : Gl X x := by rfl) (hv : bootBuiltins x = some (.type T) := by decide +kernel) (hn : x ≠ "__name__" := by decide) (hdb : (x == ("__debug__" : Str)) = false := by decide)
    (he : starEach (e :: es) X.env = (false, eval e X.env) :: starEach es X.env := by rfl) (hpl : (backTo pos (starEach es X.env)).any (·.1) = false := by rfl) : PF X W (.Call (.Name x p) (e :: es) [] pos) (rAs g rs) := by
  obtain ⟨t, pt, st⟩ := ha.ex
  refine ⟨_, pe_callTy hc hg hm hv pt hn hdb he hpl, fun α F σ H δ S Q hr hs h => ?_⟩
  refine st α F σ H δ S _ hr hs (wpF.bind h fun ds S1 _ xs H1 β F1 r1 q1 v1 h1 => ?_)
  cases eg : g S1 ds with
  | none => rw [eg] at h1; exact h1.elim
  | some z =>
    rw [eg] at h1
    obtain ⟨e1, e2⟩ := hgk _ F1 H1 S1 xs ds z Q r1 v1 eg
    exact e2 fun p o hp ho => wpF.lay h1 r1 hp ho e1
theorem dictOf_see {α : List Addr} {F H : Hp} {S : Sto} {us : List V} {ds : List D} {z : D} {Q : VK} {a : Addr} (hr : Rel X.w X.K X.mg α F H S) (hv : DVs X.w X.K X.mg F α us ds) (e : (pairsOf ds).bind dictOf = some z) (ha : DArg X.K H a us) :
    z.open = true ∧ ((∀ p o, H p = none → Own X.w X.K X.mg F α (upd H p o) p z → Q (.ref p) (upd H p o)) →
      (∃ (a' : Addr) (us : List V) (kvs : List (Key × V)), [V.ref a] = [.ref a'] ∧ DArg X.K H a' us ∧ PairsV X.K H us (kvs.map fun p => (kV p.1, p.2)) ∧ ∀ p, H p = none → Q (.ref p) (upd H p (.dK (mergeK [] kvs)))) ∨
      ∃ (a' : Addr) (us : List V) (xs : List (NestedKey × Addr × V)), [V.ref a] = [.ref a'] ∧ DArg X.K H a' us ∧ NKeys X.K H xs ∧ PairsV X.K H us (xs.map fun x => (.ref x.2.1, x.2.2)) ∧ ∀ p, H p = none → Q (.ref p) (upd H p (dN X.w p (mergeV [] xs)))) := by
  obtain ⟨kvs, e1, e2⟩ := Option.bind_eq_some_iff.mp e
  obtain ⟨prs, g1, g2, g3⟩ := pairs_see hr.sub hv e1
  unfold dictOf at e2
  split at e2
  · rename_i hk
    cases e2
    obtain ⟨ws, k1, k2⟩ := keysOf hk g2 g3
    refine ⟨rfl, fun q => .inl ⟨a, us, ws, rfl, ha, by rw [k1] at g1; exact g1, fun p hp => q p _ hp (Own.dctK.mpr ⟨_, upd_same, KVs.merge k2 .nil⟩)⟩⟩
  · split at e2
    · rename_i hk
      cases e2
      obtain ⟨xs, k1, k2⟩ := nkeysOf hr.sub hk g2 g3
      exact ⟨rfl, fun q => .inr ⟨a, us, xs, rfl, ha, k2.keys hr.sub, by rw [k1] at g1; exact g1, fun p hp => q p _ hp ⟨_, upd_same, k2.merge .nil⟩⟩⟩
    · cases e2
theorem pf_dict (hc : X.calm = true) (hu : X.A.units + 12 < cLine) (hm : X.mg "dict" = none) (ha : PDs X W (e :: es) rs) (hg : Gl X "dict" := by rfl) (he : starEach (e :: es) X.env = (false, eval e X.env) :: starEach es X.env := by rfl) (hpl : (backTo pos (starEach es X.env)).any (·.1) = false := by rfl) :
    PF X W (.Call (.Name "dict" p) (e :: es) [] pos) (rAs gDict rs) := pf_callTG (((cr_dictK hc).or (cr_dictN hc hu)).or call_dictD) (fun α F H S xs ds z Q hr hv hz => by
  unfold gDict at hz
  split at hz
  · cases hv with
    | cons h1 h2 =>
      cases h2
      split at hz
      · rename_i ys e1
        obtain ⟨l, us, rfl, a1, a2⟩ := hr.viewL h1 e1
        obtain ⟨g1, g2⟩ := dictOf_see (Q := Q) hr a2 hz (.inl a1)
        exact ⟨g1, fun q => .inl (g2 q)⟩
      · rename_i ys e1
        have s := hr.see h1
        rw [e1] at s
        cases s with
        | «at» h _ =>
          cases h with
          | tup q t =>
            obtain ⟨g1, g2⟩ := dictOf_see (Q := Q) hr t hz (.inr (hr.sub.plT q))
            exact ⟨g1, fun q => .inl (g2 q)⟩
      · rename_i kvs e1
        cases hz
        obtain ⟨l, ws, rfl, a1, a2⟩ := hr.viewD h1 e1
        exact ⟨rfl, fun q => .inr ⟨l, ws, rfl, a1, fun p hp => q p _ hp (Own.dctK.mpr ⟨_, upd_same, a2⟩)⟩⟩
      · cases hz
  · cases hz) hm ha hg (by decide +kernel) (by decide) (by decide) he hpl
end
end DL
set_option Elab.async false
set_option linter.all false
set_option maxRecDepth 100000
set_option maxHeartbeats 4000000
set_option autoImplicit false
/-! Data layer: sorted(d.items()). -/
namespace DL
open PySem PySem.Spec PyProof.Rows L2
/-- tuples that are laid, one after the other, for good -/
inductive Grow : Hp → List Addr → List (V × V) → Hp → Prop
  | nil {H : Hp} : Grow H [] [] H
  | cons {H H2 : Hp} {T : Addr} {Ts : List Addr} {p : V × V} {ps : List (V × V)} {o : Obj} : H T = none → o.dict = none → Grow (upd H T (.frz o (.tup [p.1, p.2]))) Ts ps H2 → Grow H (T :: Ts) (p :: ps) H2
theorem Grow.keeps {H H2 : Hp} {Ts : List Addr} {ps : List (V × V)} (g : Grow H Ts ps H2) : ∀ {b : Addr} {o : HO}, H b = some o → H2 b = some o := by
  induction g with
  | nil => exact fun e => e
  | cons h _ _ ih => exact fun e => ih (upd_some h e)
section
open PySem.W
variable {X : Cx} {pins : List (Addr × Obj)} {σ : L2.St} {H H0 H1 : Hp} {s : Shared} {h' : Heap} {tk : Nat}
theorem takeG (I0 : Inv X pins σ H0 s) : ∀ (as : List Addr) (ps : List (V × V)) (H1 : Hp), Inv X pins σ H1 { s with heap := h', toks := tk } → as.Nodup →
    EachIs (fun a (p : V × V) => s.heap.objs.size ≤ a ∧ ∃ o : Obj, o.dict = none ∧ ∀ H2, ObjOk X.prog X.w H2 h' a (.frz o (.tup [p.1, p.2]))) as ps → (∀ a ∈ as, H1 a = none) →
    ∃ H2, Inv X pins σ H2 { s with heap := h', toks := tk } ∧ Grow H1 as ps H2 ∧ ∀ b, b ∉ as → H2 b = H1 b
  | _, _, H1, I1, _, .nil, _ => ⟨H1, I1, .nil, fun _ _ => rfl⟩
  | a :: as, p :: ps, H1, I1, hn, .cons h t, hf => by
    obtain ⟨hb, o, ho, ok⟩ := h
    have hnone := hf a List.mem_cons_self
    have I2 : Inv X pins σ (upd H1 a (.frz o (.tup [p.1, p.2]))) { s with heap := h', toks := tk } := I1.take (h' := h') (t' := tk) (fun b ob _ e => e) (I0.fpOk hb hnone) (ok _)
    rw [List.nodup_cons] at hn
    obtain ⟨H2, I3, g, q⟩ := takeG I0 as ps _ I2 hn.2 t fun c hc => by
      rw [upd_ne (fun z => hn.1 (by rw [← z]; exact hc))]
      exact hf c (List.mem_cons_of_mem _ hc)
    refine ⟨H2, I3, .cons hnone ho g, fun b hb => ?_⟩
    rw [List.mem_cons, not_or] at hb
    rw [q b hb.2, upd_ne hb.1]
end
/-- the pairs of the dict at a -/
def ItSrc (w : World) (H : Hp) (a : Addr) (prs : List (V × V)) : Prop :=
  (∃ ws : List (Key × V), Rd H a (.dK ws) ∧ prs = ws.map fun p => (kV p.1, p.2)) ∨ ∃ xs, Rd H a (dN w a xs) ∧ prs = xs.map fun x => (.ref x.2.1, x.2.2)
section
open PySem.W
variable {X : Cx} {pins : List (Addr × Obj)} {σ : L2.St} {H : Hp} {s : Shared} {a : Addr} {prs : List (V × V)}
theorem pairs_rel {P : Program} {w : World} : ∀ {es : List DictEntry} {vs : List (Key × Value)} {ws : List (Key × V)}, PySem.Pairs (mixKind P w) es vs → KV ws vs → EachIs (fun (e : DictEntry) (p : V × V) => RelV p.1 e.key ∧ RelV p.2 e.val) es (ws.map fun p => (kV p.1, p.2))
  | _, _, _, .nil, h => by cases h; exact .nil
  | _, _, _, .cons h1 h2 t, h => by
    cases h with
    | cons g gt => exact .cons ⟨by show RelV (kV _) _; rw [g.1]; exact relV_key h1, by rw [h2]; exact g.2⟩ (pairs_rel t gt)
theorem nv_rel {w : World} : ∀ {xs : List (NestedKey × Addr × V)} {vs : List (NestedKey × Addr × Value)}, NV xs vs → EachIs (fun (e : DictEntry) (p : V × V) => RelV p.1 e.key ∧ RelV p.2 e.val) (vs.map fun x => (⟨x.1.hash w, .ref x.2.1, x.2.2⟩ : DictEntry)) (xs.map fun x => (.ref x.2.1, x.2.2))
  | _, _, .nil => .nil
  | _, _, .cons h t => .cons ⟨by show Value.ref _ = Value.ref _; rw [h.2.1], h.2.2⟩ (nv_rel t)
theorem itsrc_at (I : Inv X pins σ H s) (h : ItSrc X.w H a prs) : (a == sysModules) = false ∧ prs.length ≤ sizeLine ∧ ∃ (es : Array DictEntry) (ep : Nat), DT.Raw s.heap a es ep ∧ EachIs (fun (e : DictEntry) (p : V × V) => RelV p.1 e.key ∧ RelV p.2 e.val) es.toList prs := by
  rcases h with ⟨ws, e, rfl⟩ | ⟨xs, e, rfl⟩
  · obtain ⟨z, hs, vs, kv, o, es, ep, ho, hx, hdt, r⟩ := (show ObjOk X.prog X.w H s.heap a (.dK ws) from e.ok I.hok)
    exact ⟨hs, by rw [List.length_map]; exact z, es, ep, ⟨o, ho, hx, hdt⟩, pairs_rel r.2.1 kv⟩
  · obtain ⟨⟨h1, h2, h3, vs, h4, o, es, ep, h5, h6, h7, h8⟩, _⟩ := (show ObjOk X.prog X.w H s.heap a (dN X.w a xs) from e.ok I.hok)
    exact ⟨h1, by rw [List.length_map]; exact h2, es, ep, ⟨o, h5, h6, h7⟩, by rw [h8]; exact nv_rel h4⟩
end
mutual
theorem reads_lt {h : Heap} : ∀ {v : Value} {d : PyData} {as : List Addr}, Reads h v d as → ∀ a ∈ as, a < h.objs.size
  | _, _, _, .none => fun _ z => nomatch z
  | _, _, _, .bool b => fun _ z => nomatch z
  | _, _, _, .int i t => fun _ z => nomatch z
  | _, _, _, .str x t => fun _ z => nomatch z
  | _, _, _, .list h1 h2 h3 h4 => fun a z => by
    rcases List.mem_cons.mp z with rfl | z
    · exact Heap.lt_size h1
    · exact readsAll_lt h4 a z
  | _, _, _, .tuple h1 h2 h3 h4 => fun a z => readsAll_lt h4 a z
  | _, _, _, .dict h1 h2 h3 h4 h5 => fun a z => by
    rcases List.mem_cons.mp z with rfl | z
    · exact Heap.lt_size h1
    · rcases List.mem_append.mp z with z | z
      · exact readsAll_lt h4 a z
      · exact readsAll_lt h5 a z
theorem readsAll_lt {h : Heap} : ∀ {vs : List Value} {ds : List PyData} {as : List Addr}, ReadsAll h vs ds as → ∀ a ∈ as, a < h.objs.size
  | _, _, _, .nil => fun _ z => nomatch z
  | _, _, _, .cons h1 h2 => fun a z => by
    rcases List.mem_append.mp z with z | z
    · exact reads_lt h1 a z
    · exact readsAll_lt h2 a z
end
/-- the pairs' data -/
inductive DpPs (K : Fg) (H : Hp) : List (V × V) → List PyData → Prop
  | nil : DpPs K H [] []
  | cons {p : V × V} {x y : PyData} {prs : List (V × V)} {ps : List PyData} : Dp K H p.1 x → Dp K H p.2 y → DpPs K H prs ps → DpPs K H (p :: prs) (.tuple [x, y] :: ps)
theorem DpPs.length {K : Fg} {H : Hp} {prs : List (V × V)} {ps : List PyData} (h : DpPs K H prs ps) : prs.length = ps.length := by
  induction h with
  | nil => rfl
  | cons _ _ _ ih => rw [List.length_cons, List.length_cons, ih]
def rSortIt (X : Cx) : List V → Hp → VK → Prop := fun vs H Q => ∃ (p a : Addr) (prs : List (V × V)) (ps : List PyData), vs = [.ref p] ∧ H p = some (L2.DX.itemsO p a) ∧ ItSrc X.w H a prs ∧ DpPs X.K H prs ps ∧ sortable ps = true ∧
  ∀ (Ts : List Addr) (H2 : Hp), Grow H Ts prs H2 → ∀ l, H2 l = none → H l = none → Q (.ref l) (upd H2 l (.lst (sortBy (Ts.map .ref) ps)))
def rItemsE (w : World) : V → List V → Hp → VK → Prop := fun x xs H Q => ∃ (a : Addr) (prs : List (V × V)), x = .ref a ∧ xs = [] ∧ ItSrc w H a prs ∧ ∀ p, H p = none → Q (.ref p) (upd H p (L2.DX.itemsO p a))
section
open PySem.W
variable {X : Cx} {W : WX} {o : Expr} {to : TE} {p : Pos} {apos cpos pos : Pos}
theorem each_get {A B : Type} {R : A → B → Prop} {as : List A} {bs : List B} (h : EachIs R as bs) : ∀ {i : Nat} {a : A}, as[i]? = some a → ∃ b, bs[i]? = some b ∧ R a b := by
  induction h with
  | nil => intro i a e; simp at e
  | cons r t ih =>
    intro i a' e
    cases i with
    | zero => simp at e; subst e; exact ⟨_, rfl, r⟩
    | succ j => simp at e; obtain ⟨b, h1, h2⟩ := ih e; exact ⟨b, by simpa using h1, h2⟩
theorem each_of {A B : Type} {R : A → B → Prop} : ∀ {as : List A} {bs : List B}, as.length = bs.length → (∀ (i : Nat) (a : A) (b : B), as[i]? = some a → bs[i]? = some b → R a b) → EachIs R as bs
  | [], [], _, _ => .nil
  | a :: as, b :: bs, hl, h => .cons (h 0 a b rfl rfl) (each_of (by simpa using hl) fun i x y e1 e2 => h (i + 1) x y (by simpa using e1) (by simpa using e2))
theorem each_len {A B : Type} {R : A → B → Prop} {as : List A} {bs : List B} (h : EachIs R as bs) : as.length = bs.length := by
  induction h with
  | nil => rfl
  | cons _ _ ih => rw [List.length_cons, List.length_cons, ih]
theorem dpps_get {K : Fg} {H : Hp} {prs : List (V × V)} {ps : List PyData} (h : DpPs K H prs ps) : ∀ {i : Nat} {q : V × V} {d : PyData}, prs[i]? = some q → ps[i]? = some d → ∃ x y, d = .tuple [x, y] ∧ Dp K H q.1 x ∧ Dp K H q.2 y := by
  induction h with
  | nil => intro i q d e; simp at e
  | cons h1 h2 _ ih =>
    intro i q d e1 e2
    cases i with
    | zero => simp at e1 e2; subst e1; subst e2; exact ⟨_, _, rfl, h1, h2⟩
    | succ j => simp at e1 e2; exact ih e1 e2
theorem reads2 {h : Heap} {a : Addr} {o : Obj} {u v : Value} {n : Nat} {x y : PyData} {as bs : List Addr} (ho : h.get? a = some o) (hc : o.cls = .type "tuple") (hd : o.data = .seq #[u, v] n) (h1 : Reads h u x as) (h2 : Reads h v y bs) : ∃ cs, Reads h (.ref a) (.tuple [x, y]) cs :=
  ⟨_, .tuple ho hc hd (.cons h1 (.cons h2 .nil))⟩
theorem sortable_ok {ps : List PyData} (h : sortable ps = true) : AllAlike ps ∧ Sortable ps ∧ ∀ d ∈ ps, d.depth ≤ 40 := by
  unfold sortable at h
  rw [Bool.and_eq_true, Bool.and_eq_true, Bool.or_eq_true] at h
  obtain ⟨k1, k2, k3⟩ := h
  refine ⟨fun d hd d' hd' => List.all_eq_true.mp (List.all_eq_true.mp k2 d hd) d' hd', ?_, fun d hd => of_decide_eq_true (List.all_eq_true.mp k3 d hd)⟩
  rcases k1 with k1 | k1
  · refine .inl fun d hd => ?_
    have := List.all_eq_true.mp k1 d hd
    match d, this with
    | .tuple (x :: r), _ => exact ⟨x, r, rfl⟩
  · refine .inr fun d hd => ?_
    have := List.all_eq_true.mp k1 d hd
    refine ⟨fun z => ?_, fun xs z => ?_⟩ <;> subst z <;> exact absurd this (by simp [noTup])
theorem cr_sortIt (hc : X.calm = true) (hu : X.A.units + 64 < cLine) : CallR X (.builtin "sorted") (rSortIt X) := by
  intro pins s σ H xs us Q I r h
  obtain ⟨p, a, prs, ps, rfl, hp, src, dp, so, q⟩ := h
  obtain rfl := Vals.ref1 r
  have view : s.heap.IsItemsView p a := (show ObjOk X.prog X.w H s.heap p (L2.DX.itemsO p a) from I.hok p _ hp).1
  obtain ⟨hd, hz, es, ep, raw, rel⟩ := itsrc_at I src
  have hes : es.size = prs.length := by rw [← Array.length_toList]; exact each_len rel
  refine DT.sortedI (es := es) (ep := ep) (I.ok.hd hc) view raw (by omega) fun h' tk as hk hlt hl hG => ?_
  have lak : as.length = prs.length := by omega
  have nd : as.Nodup := List.Pairwise.imp (fun h => Nat.ne_of_lt h) hG.rise
  have I1 : Inv X pins σ H { s with heap := h', toks := tk } := I.kept (t' := tk) hk
  have new : EachIs (fun a (p : V × V) => s.heap.objs.size ≤ a ∧ ∃ o : Obj, o.dict = none ∧ ∀ H2, ObjOk X.prog X.w H2 h' a (.frz o (.tup [p.1, p.2]))) as prs := each_of lak fun i b pr e1 e2 => by
    obtain ⟨e, h1, h2⟩ := hG.pairs i b e1
    refine ⟨Nat.le_of_lt (hG.above b (List.mem_of_getElem? e1)), _, rfl, fun H2 => ⟨h2, by show 2 ≤ sizeLine; decide, [e.key, e.val], ?_, _, h2, rfl, 0, rfl⟩⟩
    obtain ⟨pr', g1, g2, g3⟩ := each_get rel (i := i) (a := e) (by rw [Array.getElem?_toList]; exact h1)
    rw [e2] at g1
    cases g1
    exact .cons g2 (.cons g3 .nil)
  have fresh : ∀ b ∈ as, H b = none := fun b hb => I.hok.fresh (Nat.le_of_lt (hG.above b hb))
  obtain ⟨H2, I2, gr, oth⟩ := takeG I as prs H I1 nd new fresh
  have hob : (h'.push { cls := .type "list", data := .seq (as.map Value.ref).toArray }).get? h'.objs.size = some (seqObj "list" (as.map Value.ref).toArray 0) := Heap.get?_push_size _ rfl
  have ka : ∀ b o, h'.get? b = some o → (h'.push { cls := .type "list", data := .seq (as.map Value.ref).toArray }).get? b = some o := fun b o e => Heap.get?_push_of_some _ e
  generalize hh2 : h'.push { cls := .type "list", data := .seq (as.map Value.ref).toArray } = h2 at hob ka ⊢
  obtain ⟨hal, hso, hdp⟩ := sortable_ok so
  have lps : ps.length = as.length := by rw [lak, dp.length]
  have ml : ((as.map V.ref).zip ps).map (·.2) = ps := List.map_snd_zip (by rw [List.length_map, lps]; exact Nat.le_refl _)
  have e1 : EachIs (fun u (b : V × PyData) => RelV b.1 u) (as.map Value.ref) ((as.map V.ref).zip ps) := each_of (by rw [List.length_zip, List.length_map, List.length_map, lps, Nat.min_self]) fun i u b g1 g2 => by
    rw [List.getElem?_map] at g1
    obtain ⟨T, hT, rfl⟩ := Option.map_eq_some_iff.mp g1
    obtain ⟨g3, g4⟩ := List.getElem?_zip_eq_some.mp g2
    rw [List.getElem?_map, hT] at g3
    have g3' : V.ref T = b.1 := Option.some.inj g3
    show RelV b.1 (.ref T)
    rw [← g3']
    rfl
  have e2 : EachIs (fun u (b : V × PyData) => ∃ cs, Reads h2 u b.2 cs ∧ h'.objs.size ∉ cs) (as.map Value.ref) ((as.map V.ref).zip ps) := each_of (by rw [List.length_zip, List.length_map, List.length_map, lps, Nat.min_self]) fun i u b g1 g2 => by
    rw [List.getElem?_map] at g1
    obtain ⟨T, hT, rfl⟩ := Option.map_eq_some_iff.mp g1
    obtain ⟨g3, g4⟩ := List.getElem?_zip_eq_some.mp g2
    obtain ⟨e, h1, hTo⟩ := hG.pairs i T hT
    obtain ⟨pr', g5, g6, g7⟩ := each_get rel (i := i) (a := e) (by rw [Array.getElem?_toList]; exact h1)
    obtain ⟨x, y, g8, g9, g10⟩ := dpps_get dp g5 g4
    obtain ⟨as1, r1⟩ := Dp.reads I _ _ _ g9 g6
    obtain ⟨as2, r2⟩ := Dp.reads I _ _ _ g10 g7
    obtain ⟨cs, r3⟩ := reads2 hTo rfl rfl (PyProof.Rows.Reads.keeps hk r1) (PyProof.Rows.Reads.keeps hk r2)
    rw [g8]
    exact ⟨cs, PyProof.Rows.Reads.keeps ka r3, fun z => Nat.lt_irrefl _ (reads_lt r3 _ z)⟩
  have sl : ((as.map V.ref).zip ps).length = as.length := by rw [List.length_zip, List.length_map, lps, Nat.min_self]
  refine list_sort_data (s := { s with heap := h2, toks := tk }) (enc := fun b : V × PyData => b.2) hob e1 e2 (by rw [ml]; exact hal) (by rw [ml]; exact hso) (by rw [sl]; omega) (fun b hb => ?_) fun out o1 o2 => ?_
  · have := hdp b.2 (by rw [← ml]; exact List.mem_map.mpr ⟨b, hb, rfl⟩)
    show X.A.units + 1 + 1 + b.2.depth < cLine
    omega
  · show EP X pins σ Q (.ref h'.objs.size) { s with heap := sortedHeap h2 h'.objs.size (as.map Value.ref) (List.toArray out), toks := tk }
    have kF : ∀ b o, b ≠ h'.objs.size → h2.get? b = some o → (sortedHeap h2 h'.objs.size (as.map Value.ref) (List.toArray out)).get? b = some o := fun b o hb e => (PyProof.Rows.sortedHeap_old hb (Heap.lt_size e)).trans e
    have kS : ∀ b o, h'.get? b = some o → (sortedHeap h2 h'.objs.size (as.map Value.ref) (List.toArray out)).get? b = some o := fun b o e => kF b o (Nat.ne_of_lt (Heap.lt_size e)) (ka b o e)
    obtain ⟨eF, heF⟩ := PyProof.Rows.sortedHeap_at (vs := as.map Value.ref) (out := List.toArray out) hob
    have I3 : Inv X pins σ H2 { s with heap := sortedHeap h2 h'.objs.size (as.map Value.ref) (List.toArray out), toks := tk } := I2.kept (t' := tk) kS
    have hn0 : H h'.objs.size = none := I.hok.fresh (Nat.le_of_lt hlt)
    have hn : H2 h'.objs.size = none := by rw [oth _ (fun z => Nat.lt_irrefl _ (hG.there z))]; exact hn0
    have hv : Vals (sortBy (as.map V.ref) ps) out := each_vals (by
      have := each_map2 (R' := fun u v => RelV v u) (fun x => x) (fun b : V × PyData => b.1) (fun _ _ q => q) o2
      rw [List.map_id'] at this
      exact this)
    have hlen : (sortBy (as.map V.ref) ps).length ≤ sizeLine := by rw [sortBy_length (by rw [List.length_map, lps]), List.length_map]; omega
    exact ⟨.ref h'.objs.size, upd H2 h'.objs.size (.lst (sortBy (as.map V.ref) ps)), I3.take (h' := sortedHeap h2 h'.objs.size (as.map Value.ref) (List.toArray out)) (t' := tk) (fun b ob _ e => e) (I.fpOk (Nat.le_of_lt hlt) hn) ⟨hlen, out, eF, hv, heF⟩, rfl, q as H2 gr _ hn hn0⟩
theorem pe_itemsE (ho : PE X o to) (hbase : attributeBase o "items" X.env (eval o X.env) = eval o X.env := by rfl) (hline : (apos.endLine == cpos.line) = true := by rfl) :
    PE X (.Call (.Attribute o "items" apos) [] [] cpos) (fun σ H Q => to σ H fun x H1 => rItemsE X.w x [] H1 Q) := by
  refine ⟨fun pins s σ H Q I h => ?_⟩
  refine wpAny_Call_method (T := "dict") (id := "dict.items") hbase rfl hline PySem.F.plainAttrs_dict PySem.F.slot_dict_items PySem.F.type_dict_items (thn (ho.run pins s σ H _ I h) fun u s1 ⟨x, H1, I1, rx, a, prs, ex, _, src, q⟩ => ?_)
  subst ex
  obtain rfl : u = Value.ref a := rx
  obtain ⟨hd, _, es, ep, raw, _⟩ := itsrc_at I1 src
  refine ⟨raw.typeIs, fun b e => ?_, ?_⟩
  · cases e; obtain ⟨o, h1, h2, _⟩ := raw; exact ⟨o, h1, h2.2.1⟩
  · show wpAny _ _ (callWith cpos (.builtin "dict.items") [.ref a] [] []) _ X.xe s1
    refine Calls.callWith_builtin rfl (PySem.evalArgs_none (DT.callItems (es := es) (ep := ep) hd raw ?_))
    exact ⟨.ref s1.heap.objs.size, upd H1 s1.heap.objs.size (L2.DX.itemsO s1.heap.objs.size a), I1.laid (t' := s1.toks) (fun b u e => Heap.get?_push_of_some _ e) (Nat.le_refl _) (L2.DX.itemsO_ok (Heap.get?_push_size _ rfl)), rfl, q _ (I1.hok.fresh (Nat.le_refl _))⟩
end
/-! ### by data -/
/-- sorted(d.items()) -/
def itemsOf : D → Option (List D)
  | .dct kvs => some (kvs.map fun p => .tup [p.1, p.2])
  | .dcn kvs => some (kvs.map fun p => .tup [p.1, p.2])
  | _ => none
def rSortItems (a : RE) : RE := fun δ S => (a δ S).bind fun d S1 => .lift (((itemsOf (deref S1 d)).bind (sortD S1)).map .lst) S1
section
open PySem.W
variable {wd : World} {K : Fg} {mg : Str → Option Value} {α β : List Addr} {F F1 H H1 : Hp} {S : Sto}
theorem toPy_pair {x y : D} {r : PyData} (h : toPy S (.tup [x, y]) = some r) : ∃ p q, r = .tuple [p, q] ∧ toPy S x = some p ∧ toPy S y = some q := by
  unfold toPy toPys toPys toPys at h
  cases e1 : toPy S x with
  | none => rw [e1] at h; cases h
  | some p =>
    cases e2 : toPy S y with
    | none => rw [e1, e2] at h; cases h
    | some q => rw [e1, e2] at h; cases h; exact ⟨p, q, rfl, rfl, rfl⟩
theorem dp_pairs (s : Sub F H) : ∀ {prs : List (V × V)} {kvs : List (D × D)} {ps : List PyData}, EachIs (fun (p : V × V) (q : D × D) => DV wd K mg F α p.1 q.1 ∧ DV wd K mg F α p.2 q.2) prs kvs → toPys S (kvs.map fun p => .tup [p.1, p.2]) = some ps → DpPs K H prs ps
  | _, _, _, .nil, e => by cases e; exact .nil
  | _, _, _, .cons h t, e => by
    rw [List.map_cons] at e
    unfold toPys at e
    split at e
    · rename_i r rs e1 e2
      cases e
      obtain ⟨p, q, rfl, g1, g2⟩ := toPy_pair e1
      exact .cons (h.1.dp g1 s) (h.2.dp g2 s) (dp_pairs s t e2)
    · cases e
theorem Rel.items (hr : Rel wd K mg α F H S) {x : V} {d : D} {xs : List D} (hx : DV wd K mg F α x d) (e : itemsOf (deref S d) = some xs) :
    ∃ a prs kvs, x = .ref a ∧ ItSrc wd H a prs ∧ xs = kvs.map (fun p => .tup [p.1, p.2]) ∧ EachIs (fun (p : V × V) (q : D × D) => DV wd K mg F α p.1 q.1 ∧ DV wd K mg F α p.2 q.2) prs kvs := by
  have s := hr.see hx
  generalize hd : deref S d = dd at e s
  cases s with
  | «at» h _ => cases h <;> cases e
  | dead => cases e
  | lst _ _ => cases e
  | @dct a ws kvs rd k t =>
    cases e
    have kv := KVs.of k t
    refine ⟨a, _, kvs, rfl, .inl ⟨ws, rd, rfl⟩, rfl, each_of (by rw [List.length_map, kv.length]) fun i p q e1 e2 => ?_⟩
    obtain ⟨k, v, g1, g2, g3⟩ := kv.at e2
    rw [List.getElem?_map, g1] at e1
    cases e1
    exact ⟨by rw [g2]; exact DV.key k, g3⟩
  | @dcn a xs kvs rd t =>
    cases e
    refine ⟨a, _, kvs, rfl, .inr ⟨xs, rd, rfl⟩, rfl, each_of (by rw [List.length_map, t.length]) fun i p q e1 e2 => ?_⟩
    obtain ⟨k, b, v, g1, g2, g3⟩ := t.at e2
    rw [List.getElem?_map, g1] at e1
    cases e1
    exact ⟨g2, g3⟩
theorem Grow.rel : ∀ {Ts : List Addr} {prs : List (V × V)} {H H2 : Hp} {F : Hp}, Grow H Ts prs H2 → Rel wd K mg α F H S →
    ∃ F2, Rel wd K mg (α ++ []) F2 H2 S ∧ Stp α F H [] F2 H2 ∧ EachIs (fun T (p : V × V) => PlT K F2 T [p.1, p.2]) Ts prs
  | _, _, _, _, F, .nil, hr => ⟨F, by rw [List.append_nil]; exact hr, Stp.refl, .nil⟩
  | T :: Ts, p :: ps, H, H2, F, .cons (o := o) hn hd g, hr => by
    obtain ⟨r1, s1⟩ := hr.newF (o := .frz o (.tup [p.1, p.2])) hn
    rw [List.append_nil] at r1
    obtain ⟨F2, r2, s2, e2⟩ := Grow.rel g r1
    have s1' : Stp (α ++ []) (upd F T (.frz o (.tup [p.1, p.2]))) (upd H T (.frz o (.tup [p.1, p.2]))) [] F2 H2 := by rw [List.append_nil]; exact s2
    exact ⟨F2, r2, s1.trans s1', .cons (s2.sub.plT (PlT.new hd)) e2⟩
theorem pairs_dvs {F : Hp} : ∀ {Ts : List Addr} {prs : List (V × V)} {kvs : List (D × D)}, EachIs (fun T (p : V × V) => PlT K F T [p.1, p.2]) Ts prs → EachIs (fun (p : V × V) (q : D × D) => DV wd K mg F α p.1 q.1 ∧ DV wd K mg F α p.2 q.2) prs kvs → DVs wd K mg F α (Ts.map .ref) (kvs.map fun p => .tup [p.1, p.2])
  | _, _, _, .nil, .nil => .nil
  | _, _, _, .cons h t, .cons g u => .cons (.tup h (.cons g.1 (.cons g.2 .nil))) (pairs_dvs t u)
end
section
variable {X : Cx} {W : WX} {o : Expr} {ro : RE} {p apos cpos pos : Pos}
theorem pf_sortIt (hc : X.calm = true) (hu : X.A.units + 64 < cLine) (hm : X.mg "sorted" = none) (ho : PD X W o ro) (hg : Gl X "sorted" := by rfl)
    (hbase : attributeBase o "items" X.env (eval o X.env) = eval o X.env := by rfl) (hline : (apos.endLine == cpos.line) = true := by rfl)
    (he : starEach [.Call (.Attribute o "items" apos) [] [] cpos] X.env = (false, eval (.Call (.Attribute o "items" apos) [] [] cpos) X.env) :: starEach [] X.env := by rfl) (hpl : (backTo pos (starEach [] X.env)).any (·.1) = false := by rfl) :
    PF X W (.Call (.Name "sorted" p) [.Call (.Attribute o "items" apos) [] [] cpos] [] pos) (rSortItems ro) := by
  obtain ⟨to, po, so⟩ := ho.ex
  have inner := pe_itemsE (cpos := cpos) po hbase hline
  refine ⟨_, pe_callB (cr_sortIt hc hu) hg hm (by decide +kernel) (pa_cons inner pa_nil he) (by decide) (by decide) he hpl, fun α F σ H δ S Q hr hs h => ?_⟩
  refine so α F σ H δ S _ hr hs (wpF.bind h fun d S1 _ x H1 β F1 r1 q1 v1 h1 => ?_)
  cases e0 : itemsOf (deref S1 d) with
  | none => rw [e0] at h1; exact h1.elim
  | some ys =>
    rw [e0] at h1
    cases e3 : sortD S1 ys with
    | none => rw [Option.bind_some, e3] at h1; exact h1.elim
    | some zs =>
      rw [Option.bind_some, e3] at h1
      obtain ⟨a, prs, kvs, rfl, src, rfl, ev⟩ := r1.items v1 e0
      unfold sortD at e3
      split at e3
      · rename_i ps e4
        split at e3
        · rename_i hc4
          cases e3
          rw [Bool.and_eq_true] at hc4
          have dp := dp_pairs r1.sub ev e4
          refine ⟨a, prs, rfl, rfl, src, fun p hp => ?_⟩
          have n := r1.notin hp
          have f := r1.notF hp
          have r2 : Rel X.w X.K X.mg (α ++ β) F1 (upd H1 p (L2.DX.itemsO p a)) S1 := r1.other n f
          have sb2 : ∀ b u, H1 b = some u → upd H1 p (L2.DX.itemsO p a) b = some u := fun b u e => upd_some hp e
          refine ⟨p, a, prs, ps, rfl, upd_same, ?_, dp_pairs r2.sub ev e4, hc4.1, fun Ts H2 g l hl hl0 => ?_⟩
          · rcases src with ⟨ws, rd, e⟩ | ⟨xs, rd, e⟩
            · exact .inl ⟨ws, rd.imp (sb2 _ _) fun ⟨o, z⟩ => ⟨o, sb2 _ _ z⟩, e⟩
            · exact .inr ⟨xs, rd.imp (sb2 _ _) fun ⟨o, z⟩ => ⟨o, sb2 _ _ z⟩, e⟩
          · obtain ⟨F2, r3, s3, e5⟩ := g.rel r2
            have s2 : Stp (α ++ β) F1 H1 [] F1 (upd H1 p (L2.DX.itemsO p a)) := Stp.refl.other hp
            have s3' : Stp ((α ++ β) ++ []) F1 (upd H1 p (L2.DX.itemsO p a)) [] F2 H2 := by rw [List.append_nil]; exact s3
            have h3 := wpF.step (s2.trans s3') h1
            have dv := pairs_dvs (wd := X.w) (K := X.K) (mg := X.mg) (α := (α ++ β) ++ []) e5 (PySem.W.EachIs.mono (fun _ _ z => ⟨z.1.mono s3.sub, z.2.mono s3.sub⟩) ev)
            exact wpF.lay h3 r3 hl ⟨_, upd_same, dv.sort ps⟩ rfl
        · cases e3
      · cases e3
end
end DL
set_option Elab.async false
set_option linter.all false
set_option maxRecDepth 100000
set_option maxHeartbeats 4000000
set_option autoImplicit false
/-! Data layer: sorted(set(texts)). -/
namespace DL
open PySem PySem.Spec PyProof.Rows L2
def txV : Value → Str
  | .str x _ => x
  | _ => ⟨#[]⟩
def isTxV : Value → Bool
  | .str _ _ => true
  | _ => false
open PySem.Froz in
/-- the set of texts at a -/
def TxR (P : Program) (w : World) (h : Heap) (a : Addr) (l : List Str) : Prop :=
  ∃ D : SD, h.get? a = some (sObj "set" D) ∧ TxOk P w D l ∧ Ris D.2.2.place.toList ∧ (w.params.followText "set-order" = true ∨ D.2.2.led = true) ∧ (D.1.toList.map fun e => txV e.2).Perm l ∧ (∀ e ∈ D.1.toList, isTxV e.2 = true) ∧ l.Nodup
section
open PySem.Froz
variable {P : Program} {w : World} {A : Around} {E : Value → Shared → Prop} {s : Shared}
theorem TxR.keep {h h' : Heap} {a : Addr} {l : List Str} (R : TxR P w h a l) (k : ∀ o, h.get? a = some o → h'.get? a = some o) : TxR P w h' a l := by
  obtain ⟨D, ho, q⟩ := R
  exact ⟨D, k _ ho, q⟩
end
end DL
set_option Elab.async false
set_option linter.all false
set_option maxRecDepth 100000
set_option maxHeartbeats 4000000
set_option autoImplicit false
/-! Data layer: sorted(set(texts)), its end. -/
namespace DL
open PySem PySem.Spec PyProof.Rows L2
def leT (a b : Str) : Bool := decide (a.cps.toList ≤ b.cps.toList)
def sortT (l : List Str) : List Str := l.mergeSort leT
theorem leT_trans (a b c : Str) : leT a b = true → leT b c = true → leT a c = true := fun h g => decide_eq_true (List.le_trans (of_decide_eq_true h) (of_decide_eq_true g))
theorem leT_total (a b : Str) : (leT a b || leT b a) = true := by
  rw [Bool.or_eq_true]
  exact (List.le_total a.cps.toList b.cps.toList).imp decide_eq_true decide_eq_true
theorem strT_ext {a b : Str} (h : a.cps.toList = b.cps.toList) : a = b := by
  cases a; cases b
  exact congrArg Str.mk (Array.toList_inj.mp h)
theorem leT_anti (a b : Str) (h : leT a b = true) (g : leT b a = true) : a = b := strT_ext (List.le_antisymm (of_decide_eq_true h) (of_decide_eq_true g))
theorem sortT_pairwise (l : List Str) : (sortT l).Pairwise (fun a b => leT a b = true) := List.pairwise_mergeSort (le := leT) leT_trans leT_total l
theorem sortT_perm (l : List Str) : (sortT l).Perm l := List.mergeSort_perm l leT
end DL
set_option Elab.async false
set_option linter.all false
set_option maxRecDepth 100000
set_option maxHeartbeats 4000000
set_option autoImplicit false
/-! Data layer: slices with steps. -/
namespace DL
open PySem PySem.Spec PyProof.Rows L2
def SlRs (X : Cx) (r : V → Option Int → Option Int → Int → Hp → VK → Prop) : Prop :=
  ∀ (pins : List (Addr × Obj)) (s : Shared) (σ : L2.St) (H : Hp) (x : V) (v vl vu vk : Value) (lo hi : Option Int) (k : Int) (sl : Addr) (Q : VK), Inv X pins σ H s → RelV x v → s.heap.IsSliceOf sl vl vu vk → IsPart vl lo → IsPart vu hi → IsPart vk (some k) → r x lo hi k H Q →
    ∃ T id, typeLookup (.type T) "__getitem__" = pure (some (.builtin id)) ∧ s.TypeIs v T ∧ wpAny (model X.prog X.w) X.A (getItem v (.ref sl)) (EP X pins σ Q) X.xe s
section
variable {X : Cx} {e st : Expr} {te : TE} {lo hi : Option Expr} {tl th tk : TO} {pos p2 : Pos}
theorem SlRs.or {r r' : V → Option Int → Option Int → Int → Hp → VK → Prop} (h : SlRs X r) (h' : SlRs X r') : SlRs X (fun x lo hi k H Q => r x lo hi k H Q ∨ r' x lo hi k H Q) := by
  intro pins s σ H x v vl vu vk lo hi k sl Q I rx hs pl pu pk q
  rcases q with q | q
  · exact h pins s σ H x v vl vu vk lo hi k sl Q I rx hs pl pu pk q
  · exact h' pins s σ H x v vl vu vk lo hi k sl Q I rx hs pl pu pk q
end
/-! ### by data -/
end DL
set_option Elab.async false
set_option linter.all false
set_option maxRecDepth 100000
set_option maxHeartbeats 4000000
set_option autoImplicit false
/-! Data layer: sorted(set(texts)), zip of tuples, calls of defs that a name holds. -/
namespace DL
open PySem PySem.Spec PyProof.Rows L2
/-! ### sorted(set(texts)) -/
section
variable {X : Cx} {W : WX} {a b c e tg : Expr} {es rest : List Expr} {ra rb rc : RE} {rs : RA} {pos p p2 pos2 : Pos}
/-! ### zip of two lists, of two tuples -/
def rZipA (a : RA) : RA := fun δ S => (a δ S).bind fun xs S1 => match xs with
  | [.lst ds, .lst es] => .ok (zipD ds es) S1
  | [.tup ds, .tup es] => .ok (zipD ds es) S1
  | _ => .stuck
end
section
variable {wd : World} {K : Fg} {mg : Str → Option Value} {α : List Addr} {F H : Hp} {S : Sto}
theorem it_zipT {l m : Addr} {us ws : List V} {ds es : List D} (h : SqT K F l us) (hv : DVs wd K mg F α us ds) (g : SqT K F m ws) (gv : DVs wd K mg F α ws es) : ItOk wd K mg F α (RZ.ItzT K l m) (zipD ds es) where
  go := fun F' H' i a b hi => by
    rw [zipD_len] at hi
    obtain ⟨v, e1, _⟩ := hv.get (List.getElem?_eq_getElem (by omega : i < ds.length))
    obtain ⟨u, e2, _⟩ := gv.get (List.getElem?_eq_getElem (by omega : i < es.length))
    exact ⟨us, ws, v, u, (a.trans b).sqT h, (a.trans b).sqT g, e1, e2⟩
  stop := fun F' H' a b => ⟨us, ws, (a.trans b).sqT h, (a.trans b).sqT g, by rw [hv.length, gv.length, zipD_len]; omega⟩
  yld := fun F' H' H2 i x d a b hd ⟨T, y, y2, e1, e2, e3, e4, e5⟩ => by
    have f1 := e4 us ((a.trans b).sqT h)
    have f2 := e5 ws ((a.trans b).sqT g)
    obtain ⟨p, q, e6, e7, rfl⟩ := zipD_get hd
    obtain ⟨v, e8, e9⟩ := hv.get e6
    rw [f1] at e8; cases e8
    obtain ⟨v2, e10, e11⟩ := gv.get e7
    rw [f2] at e10; cases e10
    subst e1
    have nF : F' T = none := by
      cases z : F' T with
      | none => rfl
      | some u => rw [b _ _ z] at e2; cases e2
    have sb := a.trans (Sub.new (o := .tup [y, y2]) nF)
    refine .inr ⟨T, _, e2, e3, .tux (SqT.of upd_same) (.cons ?_ (.cons ?_ .nil))⟩
    · have := e9.mono (β := []) sb
      rw [List.append_nil] at this; exact this
    · have := e11.mono (β := []) sb
      rw [List.append_nil] at this; exact this
end
section
variable {X : Cx} {W : WX} {a b c e tg : Expr} {es rest : List Expr} {ra rb rc : RE} {rs : RA} {pos p p2 pos2 : Pos}
theorem pid_zipA {elts : List Expr} {kk : Nat} {tpos : Pos} (hm : X.mg "zip" = none) (ha : PDs X W [a, b] rs) (hg : Gl X "zip" := by rfl) (hs : starEach [a, b] X.env = (false, eval a X.env) :: starEach [b] X.env := by rfl) (hpl : (backTo pos (starEach [b] X.env)).any (·.1) = false := by rfl) : PId X W (.Tuple elts kk tpos) (.Call (.Name "zip" p) [a, b] [] pos) (rZipA rs) := by
  obtain ⟨t, p1, s1⟩ := ha.ex
  refine ⟨_, RZ.pi_zipA hg hm p1 hs hpl, fun α F σ H δ S Q hr hs h => ?_⟩
  refine s1 α F σ H δ S _ hr hs (wp.bind h fun ds S1 e1 xs H1 β F1 r1 q1 v1 h1 => ?_)
  have hl := ha.len _ _ _ _ e1
  match ds, hl with
  | [d, d'], _ =>
    cases v1 with
    | cons v1 vn =>
      cases vn with
      | cons v2 vn =>
        cases vn
        cases d with
        | lst ys =>
          cases d' with
          | lst zs =>
            cases v1 with
            | lst a1 a2 => cases v2 with
              | lst b1 b2 => exact ⟨_, _, _, _, rfl, .inl ⟨r1.sub.sqL a1, r1.sub.sqL b1, h1.now r1 (it_zip a1 a2 b1 b2)⟩⟩
          | _ => exact h1.elim
        | tup ys =>
          cases d' with
          | tup zs =>
            cases v1 with
            | tup a1 a2 => cases v2 with
              | tup b1 b2 => exact ⟨_, _, _, _, rfl, .inr ⟨r1.sub.sqT a1.1, r1.sub.sqT b1.1, h1.now r1 (it_zipT a1.1 a2 b1.1 b2)⟩⟩
          | _ => exact h1.elim
        | _ => exact h1.elim
/-! ### a call of a def that a name holds -/
def rCallV (i : Nat) (ms : List (Str × Mir)) (a : RA) : RE := fun δ S => match δ[i]? with
  | some (some (.fn y)) => (match ms.lookup y with
    | some m => (a δ S).bind m
    | none => .stuck)
  | _ => .stuck
def tCallV (X : Cx) (W : WX) (i : Nat) (t : TA) : TE := fun σ H Q => ∃ (f : Addr) (fd : FuncData) (ps : List Str) (k : Nat) (sp : Sp), σ[i]? = some (some (.ref f)) ∧ FnG X.prog X.w X.K X.mg X.base k f fd ps sp ∧ Room k X.A ∧ PySem.W.keepIn X.K (.ref f) = true ∧ Binds X.K fd ps [] ∧ t σ H fun vs H1 => sp vs H1 Q (WE W σ)
theorem pd_callV {i n : Nat} {x : Str} {ms : List (Str × Mir)} (hall : ∀ y m, ms.lookup y = some m → ∃ k, Fn X.prog X.w X.K X.mg X.base y n k m ∧ Room k X.A) (hG : X.A.guards = some []) (tk : Takes X W) (ha : PDs X W (e :: es) rs) (hl : (e :: es).length = n := by rfl)
    (hN : X.N[i]? = some x := by rfl) (hv : Vis X.env.scope x := by first | exact Or.inl rfl | exact Or.inr (Or.inl rfl) | exact Or.inr (Or.inr rfl)) (hd : (x == ("__debug__" : Str)) = false := by decide) (hcd : (x == ("__classdict__" : Str)) = false := by decide)
    (he : starEach (e :: es) X.env = (false, eval e X.env) :: starEach es X.env := by rfl) (hpl : (backTo pos (starEach es X.env)).any (·.1) = false := by rfl) : PD X W (.Call (.Name x p) (e :: es) [] pos) (rCallV i ms rs) := by
  obtain ⟨t, pt, st⟩ := ha.ex
  refine ⟨tCallV X W i t, ⟨fun pins s σ H Q I h => ?_⟩, fun α F σ H δ S Q hr hs h => ?_⟩
  · obtain ⟨f, fd, ps, k, sp, h1, h2, h3, h4, h5, h6⟩ := h
    refine wpAny_Call_Name_kw (thn ((pe_var (pos := p) hN hv hd hcd).run pins s σ H (fun v H1 => v = .ref f ∧ H1 = H) I ⟨.ref f, h1, rfl, rfl⟩) fun u s1 ⟨v, H1, I1, r1, q1⟩ => ?_)
    obtain ⟨rfl, rfl⟩ := q1
    cases r1
    exact PySem.W.callWith_K (h₀ := X.base) I.ok.mod.kin h4 (thn (pt.run pos pins s1 σ _ _ I1 h6) fun us s2 ⟨vs, H2, I2, r, q⟩ => ⟨I2.kIn, h2.call h3 hG h5 tk I2 r q⟩) he hpl
  · unfold rCallV at h
    split at h
    · rename_i y e1
      split at h
      · rename_i m e2
        obtain ⟨k, F1, R1⟩ := hall y m e2
        obtain ⟨f, fd, ps, g1, g2, g3, g4⟩ := F1.ex
        obtain ⟨v, k1, k2⟩ := hs.2 i _ e1
        cases k2 with
        | fn k3 =>
          rw [g1] at k3
          cases k3
          refine ⟨f, fd, ps, k, _, k1, g4, R1, g2, g3, ?_⟩
          refine st α F σ H δ S _ hr hs (wp.bind h fun ds S1 e1 xs H1 β F1 r1 q1 v1 h1 => ?_)
          exact ⟨by rw [v1.length, ha.len _ _ _ _ e1]; exact hl, α ++ β, F1, S1, ds, r1, v1, h1⟩
      · exact h.elim
    · exact h.elim
end
end DL
set_option Elab.async false
set_option linter.all false
set_option maxRecDepth 100000
set_option maxHeartbeats 4000000
set_option autoImplicit false
/-! Data layer: defs as values, small things. -/
namespace DL
open PySem PySem.Spec PyProof.Rows L2
section
variable {X : Cx} {W : WX} {pos p : Pos} {k n : Nat}
theorem Env1.u12 (h : Env1 X k) : X.A.units + 12 < cLine := by have := h.room.un; omega
theorem pd_fnv {x : Str} {m : Mir} (F : Fn X.prog X.w X.K X.mg X.base x n k m) (hg : Gl X x := by rfl) (hd : (x == ("__debug__" : Str)) = false := by decide) : PD X W (.Name x pos) (rC (.fn x)) := by
  obtain ⟨f, fd, ps, h1, _⟩ := F.ex
  exact pd_c (v := .ref f) (pe_glob hg h1 rfl hd) fun _ _ => .fn h1
def Hall (X : Cx) (n : Nat) (ms : List (Str × Mir)) : Prop := ∀ y m, ms.lookup y = some m → ∃ k, Fn X.prog X.w X.K X.mg X.base y n k m ∧ Room k X.A
theorem hall_nil : Hall X n [] := fun y m h => by cases h
theorem hall_cons {x : Str} {m : Mir} {ms : List (Str × Mir)} (F : Fn X.prog X.w X.K X.mg X.base x n k m) (R : Room k X.A) (h : Hall X n ms) : Hall X n ((x, m) :: ms) := fun y m' e => by
  rw [List.lookup_cons] at e
  cases q : y == x with
  | true =>
    rw [q] at e
    cases e
    have := eq_of_beq q
    subst this
    exact ⟨k, F, R⟩
  | false => rw [q] at e; exact h y m' e
end
/-! ### a def that leaves what it made in the store -/
def mDefK (n : Nat) (b : RS) : Mir := fun ds S => match b (ds.map some ++ List.replicate (n - ds.length) none) S with
  | .rt d S1 => .ok d S1
  | .nx _ S1 => .ok .non S1
  | .err c fs _ S1 => .err c fs S1
  | _ => .stuck
theorem fn_okK {P : Program} {w : World} {K : Fg} {mg : Str → Option Value} {base : Heap} {x qual : Str} {st : Stmt} {f : Addr} {fd : FuncData} {N ps : List Str} {k : Nat} {r : RS} (Fu : Fun K x qual st f fd) (Sc : FnScope N ps (defScope st))
    (hbody : ∀ (cdv : Value) (A : Around) (outer : List Env) (s : Shared) (H : Hp) (E : XK), Room k (A.deeper (envOfC qual (defScope st) s.heap.objs.size f cdv)) → A.guards = some [] → PSds (cxOf (L2.CX P w) P w K mg base N qual (defScope st) f cdv A outer s H E) (fun cls d _ H => E cls d H) (defBody st) r) :
    FnG P w K mg base (k + 1) f fd ps (spD w K mg ps.length (mDefK N.length r)) := by
  refine fn_G Fu Sc (fun vs H Q E h => h.1) fun cdv A outer s H vs Q E hr hG h => ?_
  obtain ⟨hl, α, F, S, ds, h1, h2, h3⟩ := h
  obtain ⟨t, pt, st⟩ := (hbody cdv A outer s H E hr hG).ex
  refine ⟨t, pt, st α F _ H _ S _ h1 (slots_start h2) ?_⟩
  have h3 : wp w K mg α F H (relD w K mg) (mDefK N.length r ds S) Q E := h3
  unfold mDefK at h3
  cases q : r (ds.map some ++ List.replicate (N.length - ds.length) none) S with
  | nx δ S1 =>
    rw [q] at h3
    intro σ' H' β F' r1 s1 _
    exact h3 .non H' β F' r1 s1 .non
  | rt d S1 =>
    rw [q] at h3
    exact h3
  | err c fs δ S1 =>
    rw [q] at h3
    intro cls dd σ' H' β F' r1 s1 _ he
    exact h3 cls dd H' β F' r1 s1 he
  | bk δ S1 => rw [q] at h3; exact h3.elim
  | ct δ S1 => rw [q] at h3; exact h3.elim
  | stuck => rw [q] at h3; exact h3.elim
theorem fn_mkK {P : Program} {w : World} {K : Fg} {mg : Str → Option Value} {base : Heap} {x : Str} {st : Stmt} {N ps : List Str} {k : Nat} {r : RS} (Fu : Fd K mg x st ps) (Sc : FnScope N ps (defScope st))
    (hbody : ∀ (f : Addr) (cdv : Value) (A : Around) (outer : List Env) (s : Shared) (H : Hp) (E : XK), Env1 (cxOf (L2.CX P w) P w K mg base N x (defScope st) f cdv A outer s H E) k → Takes (cxOf (L2.CX P w) P w K mg base N x (defScope st) f cdv A outer s H E) (fun cls d _ H => E cls d H) →
      PSds (cxOf (L2.CX P w) P w K mg base N x (defScope st) f cdv A outer s H E) (fun cls d _ H => E cls d H) (defBody st) r) : Fn P w K mg base x ps.length (k + 1) (mDefK N.length r) := by
  obtain ⟨f, fd, h1, h2, h3⟩ := Fu.ex
  exact ⟨f, fd, ps, h2, h1.kp, h3, fn_okK h1 Sc fun cdv A outer s H E hr hG => hbody f cdv A outer s H E ⟨hr, hG, passes_of rfl⟩ (takes_of rfl rfl rfl rfl)⟩
section
variable {X : Cx} {pos : Pos} {k : Nat} {es : List Expr}
theorem plc_noT {vs : List Nat} {scope : Scope} {elt : Expr} {t : TGs} {u : List D → Sl → Sto → Res Sl} {re : RE} (hc : X.calm = true) (hg : ∀ (s : Shared) (H : Hp) (C : Addr) (cl : List (Str × Addr)) (fp : List Addr), PGxs (X.blk s H scope (compEnvC scope cl C X.env) fp) vs es t u)
    (he : ∀ (s : Shared) (H : Hp) (C : Addr) (cl : List (Str × Addr)) (fp : List Addr), PD (X.blk s H scope (compEnvC scope cl C X.env) fp) W0 elt re)
    (hn : ∀ (s : Shared) (H : Hp) (C : Addr) (cl : List (Str × Addr)) (fp : List Addr), (assignEach es (X.blk s H scope (compEnvC scope cl C X.env) fp).env).length = es.length := by intros; rfl)
    (hst : ∀ (s : Shared) (H : Hp) (C : Addr) (cl : List (Str × Addr)) (fp : List Addr), (assignEach es (X.blk s H scope (compEnvC scope cl C X.env) fp).env).findIdx? (·.1) = none := by intros; rfl) :
    PLc X vs scope (.Tuple es k pos) elt [] (L2.gTup X.K es.length t) tYes (gTup u) bYes re :=
  plc_no (fun s H C cl fp => pgx_tup (X := X.blk s H scope (compEnvC scope cl C X.env) fp) hc (hg s H C cl fp) (hn s H C cl fp) (hst s H C cl fp)) he
theorem plc_ifT {vs : List Nat} {scope : Scope} {elt c : Expr} {t : TGs} {u : List D → Sl → Sto → Res Sl} {bc : RB} {re : RE} (hca : X.calm = true) (hg : ∀ (s : Shared) (H : Hp) (C : Addr) (cl : List (Str × Addr)) (fp : List Addr), PGxs (X.blk s H scope (compEnvC scope cl C X.env) fp) vs es t u)
    (hc : ∀ (s : Shared) (H : Hp) (C : Addr) (cl : List (Str × Addr)) (fp : List Addr), PB (X.blk s H scope (compEnvC scope cl C X.env) fp) W0 c bc) (he : ∀ (s : Shared) (H : Hp) (C : Addr) (cl : List (Str × Addr)) (fp : List Addr), PD (X.blk s H scope (compEnvC scope cl C X.env) fp) W0 elt re)
    (hn : ∀ (s : Shared) (H : Hp) (C : Addr) (cl : List (Str × Addr)) (fp : List Addr), (assignEach es (X.blk s H scope (compEnvC scope cl C X.env) fp).env).length = es.length := by intros; rfl)
    (hst : ∀ (s : Shared) (H : Hp) (C : Addr) (cl : List (Str × Addr)) (fp : List Addr), (assignEach es (X.blk s H scope (compEnvC scope cl C X.env) fp).env).findIdx? (·.1) = none := by intros; rfl) :
    PLc X vs scope (.Tuple es k pos) elt [c] (L2.gTup X.K es.length t) (tCanB X.w X.K X.mg W0 bc) (gTup u) bc re :=
  plc_if (fun s H C cl fp => pgx_tup (X := X.blk s H scope (compEnvC scope cl C X.env) fp) hca (hg s H C cl fp) (hn s H C cl fp) (hst s H C cl fp)) hc he
end
/-! ### tests by cases, calls of nothing -/
def bIf (c a b : RB) : RB := fun δ S => (c δ S).bind fun k S1 => if k then a δ S1 else b δ S1
section
variable {X : Cx} {W : WX} {a b c : Expr} {ba bb bc : RB} {pos p : Pos}
theorem pd_fn0 {x : Str} {m : Mir} {k : Nat} (F : Fn X.prog X.w X.K X.mg X.base x 0 k m) (hr : Room k X.A) (hG : X.A.guards = some []) (tk : Takes X W) (hg : Gl X x := by rfl) (hdb : (x == ("__debug__" : Str)) = false := by decide) : PD X W (.Call (.Name x p) [] [] pos) (rCall m rNil) := by
  obtain ⟨f, fd, ps, h1, h2, h3, h4⟩ := F.ex
  refine ⟨tCallS (spD X.w X.K X.mg 0 m) (WE W) tNil, ⟨fun pins s σ H Q I h => wpAny_Call_Name_kw (ld_glob I hg h1 ?_ hdb)⟩, fun α F σ H δ S Q hr hs h => ?_⟩
  · exact PySem.W.callWith_K0 I.kIn h2 (h4.call hr hG h3 tk I .nil h)
  · exact ⟨rfl, α, F, S, [], hr, .nil, h⟩
end
end DL
set_option Elab.async false
set_option linter.all false
set_option maxRecDepth 100000
set_option maxHeartbeats 4000000
set_option autoImplicit false
/-! Data layer: repr of data with numbers of up to 4300 figures. -/
namespace DL
open PySem PySem.Spec PyProof.Rows L2
def NoDig (K : Fg) : Prop := PySem.W.nsIn K cStatics "sys.int_max_str_digits" = some none
end DL
set_option Elab.async false
set_option linter.all false
set_option maxRecDepth 100000
set_option maxHeartbeats 4000000
set_option autoImplicit false
/-! The head's hook, with what the interpreter's own table lacks. -/
namespace DL
open PySem PySem.Spec PyProof.Rows L2
def digB (K : Fg) : Bool := decide (PySem.W.nsIn K cStatics "sys.int_max_str_digits" = some none)
end DL
set_option Elab.async false
set_option linter.all false
set_option maxRecDepth 100000
set_option maxHeartbeats 4000000
set_option autoImplicit false
/-! Module's names that hold tuples. -/
namespace DL
open PySem PySem.Spec PyProof.Rows L2
mutual
def litB (K : Fg) : Nat → Value → D → Bool
  | _, .none, .non => true
  | _, .bool b, .bl c => decide (b = c)
  | _, .int i _, .int j => decide (i = j)
  | _, .str x _, .str y => decide (x = y)
  | n + 1, .ref a, .tup ds => (match K.lookup a with
    | some ⟨.type c, none, .seq us _, _⟩ => decide (c = "tuple") && (decide (us.size ≤ sizeLine) && litAll K n us.toList ds)
    | _ => false)
  | _, _, _ => false
def litAll (K : Fg) : Nat → List Value → List D → Bool
  | _, [], [] => true
  | n, u :: us, d :: ds => litB K n u d && litAll K n us ds
  | _, _, _ => false
end
section
variable {K : Fg} {w : World} {mg : Str → Option Value}
def litF (K : Fg) (p : Str × D) : Bool := match PySem.W.nsIn K mainGlobals p.1 with
  | some (some u) => litB K 9 u p.2
  | _ => false
end
/-! the head's hook with these -/
def obsL (fa : List He.Fa) (fn : List He.DefD) (li : List (Str × D)) (K : Fg) : He.AlD := (digB K && (li.all (litF K) && (He.obsD fa fn K).1), (He.obsD fa fn K).2)
def SaysL (fa : List He.Fa) (fn : List He.DefD) (li : List (Str × D)) (K : Fg) : Prop := obsL fa fn li K = He.valD fn
theorem SaysL.all {fa : List He.Fa} {fn : List He.DefD} {li : List (Str × D)} {K : Fg} (h : SaysL fa fn li K) : He.SaysD fa fn K ∧ NoDig K ∧ ∀ (i : Nat) (p : Str × D), li[i]? = some p → litF K p = true := by
  have h0 : obsL fa fn li K = He.valD fn := h
  have h1 : (digB K && (li.all (litF K) && (He.obsD fa fn K).1)) = true := congrArg (fun z : He.AlD => z.1) h0
  have h2 : (obsL fa fn li K).2 = (He.valD fn).2 := congrArg (fun z : He.AlD => z.2) h0
  rw [Bool.and_eq_true, Bool.and_eq_true] at h1
  refine ⟨?_, ?_, fun i p hp => List.all_eq_true.mp h1.2.1 p (List.mem_of_getElem? hp)⟩
  · show He.obsD fa fn K = He.valD fn
    exact Prod.ext h1.2.2 h2
  · have h3 := h1.1
    unfold digB at h3
    unfold NoDig
    exact of_decide_eq_true h3
end DL
set_option Elab.async false
set_option linter.all false
set_option maxRecDepth 100000
set_option maxHeartbeats 4000000
set_option autoImplicit false
/-! list(range(n)): a new list of numbers. -/
namespace DL
open PySem PySem.Spec PyProof.Rows L2
end DL
set_option Elab.async false
set_option linter.all false
set_option maxRecDepth 100000
set_option maxHeartbeats 4000000
set_option autoImplicit false
/-! d.update(e), both dicts with keys ints and texts. -/
namespace L2
open PySem PySem.Spec PyProof.Rows
def tDUpd (td ty : TE) : TE := fun σ H Q => td σ H fun x H1 => ∃ a, x = .ref a ∧ IsD H1 a ∧ ty σ H1 fun y H2 => ∃ o kvs more, y = .ref o ∧ H2 a = some (.dK kvs) ∧ H2 o = some (.dK more) ∧ a ≠ o ∧ kvs.length + more.length ≤ sizeLine ∧ Q .non (upd H2 a (.dK (mergeK kvs more)))
section
variable {X : Cx} {o e f : Expr} {apos cpos : Pos} {td ty tx : TE}
theorem pe_dupd (ho : PE X o td) (he : PE X e ty) (m : M1 X o "update" apos e cpos) : PE X (.Call (.Attribute o "update" apos) [e] [] cpos) (tDUpd td ty) := by
  refine ⟨fun pins s σ H Q I h => ?_⟩
  refine wpAny_Call_method m.base m.few m.line PySem.F.plainAttrs_dict PySem.F.slot_dict_update PySem.F.type_dict_update (thn (ho.run pins s σ H _ I h) fun u s1 ⟨x, H1, I1, rx, a, ex, d, q1⟩ => ?_)
  subst ex
  obtain rfl : u = Value.ref a := rx
  obtain ⟨t1, t2, _⟩ := isD_at I1 d
  refine ⟨t1, t2, ?_⟩
  rw [m.trees]
  refine Calls.callWith_builtin rfl (Calls.evalArgs_plain (Calls.spliced_cons (thn (he.run pins s1 σ H1 _ I1 q1) fun iv s2 ⟨y, H2, I2, ry, b, kvs, more, ey, e1, e2, hne, hz, q2⟩ => Calls.spliced_nil ?_)))
  subst ey
  obtain rfl : iv = Value.ref b := ry
  obtain ⟨z, hd, vs, rel, dd⟩ := dk_of I2.hok e1
  obtain ⟨z2, hd2, vs2, rel2, dd2⟩ := dk_of I2.hok e2
  refine call_meetsIn PySem.F.slot_dict_update dd.typeIs PySem.F.entry_dict_update (PySem.F.args_dict_update_2 _ _) (meets_dict_update (mixKind X.prog X.w) a b hne hd2)
    ⟨vs, vs2, dd, dd2, (by rw [← rel.length, ← rel2.length]; exact hz), fun h' dd' _ hs => ?_⟩
  have he' : ∃ q, h'.get? a = some q := let ⟨q, _, _, hq, _⟩ := dd'; ⟨q, hq⟩
  have hl : (mergeK kvs more).length ≤ sizeLine := Nat.le_trans (length_mergeK more kvs) hz
  exact ⟨.non, _, d_write I2 (by rw [e1]; exact True.intro) hs he' (dk_new hl hd (rel2.merge rel) dd'), rfl, q2⟩
end
end L2
namespace DL
open PySem PySem.Spec PyProof.Rows L2
def updD (n : Nat) (y : D) (S2 : Sto) : Res D := match y with
  | .ptr m => if n = m then .stuck else (match S2[n]?, S2[m]? with
    | some (.dct kvs), some (.dct more) => if kvs.length + more.length ≤ sizeLine then .ok .non (S2.set n (.dct (mergeD kvs more))) else .stuck
    | _, _ => .stuck)
  | _ => .stuck
def rUpd (d e : RE) : RE := fun δ S => (d δ S).bind fun x S1 => match x with
  | .ptr n => (match S1[n]? with
    | some (.dct _) => (e δ S1).bind fun y S2 => updD n y S2
    | _ => .stuck)
  | _ => .stuck
section
variable {X : Cx} {W : WX} {a b : Expr} {ra rb : RE}
theorem pd_upd {apos cpos : Pos} (ha : PD X W a ra) (hb : PD X W b rb) (m : M1 X a "update" apos b cpos := by exact ⟨rfl, rfl, rfl, rfl⟩) : PD X W (.Call (.Attribute a "update" apos) [b] [] cpos) (rUpd ra rb) := by
  obtain ⟨ta, pa, sa⟩ := ha.ex
  obtain ⟨tb, pb, sb⟩ := hb.ex
  refine ⟨_, pe_dupd pa pb m, fun α F σ H δ S Q hr hs h => ?_⟩
  refine sa α F σ H δ S _ hr hs (wp.bind h fun d S1 _ x H1 β F1 r1 s1 v1 h1 => ?_)
  split at h1
  · rename_i n _
    split at h1
    · rename_i kv0 e0
      cases v1 with
      | @ptr _ ad ea =>
        obtain ⟨o0, _⟩ := r1.own _ _ _ ea e0
        obtain ⟨ws0, o1, _⟩ := Own.dctK.mp o0
        refine ⟨ad, rfl, .inl ⟨ws0, .of o1⟩, ?_⟩
        refine sb (α ++ β) F1 σ H1 δ S1 _ r1 (hs.mono s1.sub) (wp.bind h1 fun y S2 _ yv H2 γ F2 r2 s2 v2 h2 => ?_)
        unfold updD at h2
        split at h2
        · rename_i m'
          split at h2
          · exact h2.elim
          · rename_i hnm
            split at h2
            · rename_i kvs more q1 q2
              split at h2
              · rename_i hz
                cases v2 with
                | @ptr _ bd eb =>
                  have ea2 : (α ++ β ++ γ)[n]? = some ad := by rw [List.getElem?_append_left (List.getElem?_eq_some_iff.mp ea).1]; exact ea
                  obtain ⟨p0, _⟩ := r2.own _ _ _ ea2 q1
                  obtain ⟨ws, p1, p2⟩ := Own.dctK.mp p0
                  obtain ⟨g0, _⟩ := r2.own _ _ _ eb q2
                  obtain ⟨wm, g1, g2⟩ := Own.dctK.mp g0
                  have hne : ad ≠ bd := fun z => hnm (by
                    subst z
                    exact (List.getElem?_inj (List.getElem?_eq_some_iff.mp ea2).1 r2.nd).mp (ea2.trans eb.symm))
                  obtain ⟨a1, a2⟩ := r2.setO (o := .dK (mergeK ws wm)) (d := .dct (mergeD kvs more)) ea2 q1 rfl (Own.dctK.mpr ⟨_, upd_same, g2.merge p2⟩)
                  exact ⟨bd, ws, wm, rfl, p1, g1, hne, by rw [p2.length, g2.length]; exact hz, h2 _ _ _ _ a1 a2 .non⟩
              · exact h2.elim
            · exact h2.elim
        · exact h2.elim
    · exact h1.elim
  · exact h1.elim
end
end DL
set_option Elab.async false
set_option linter.all false
set_option maxRecDepth 100000
set_option maxHeartbeats 4000000
set_option autoImplicit false
/-! sorted(d) of a dict with texts for keys, fewer than 64. -/
namespace DL
open PySem PySem.Spec PyProof.Rows L2
def strKeys : List (D × D) → Option (List Str)
  | [] => some []
  | (.str x, _) :: r => (strKeys r).map (x :: ·)
  | _ => none
/-- sorted(d) -/
def gSortKeys : Sto → List D → Option D := fun S ds => match ds with
  | [d] => (match deref S d with
    | .dct kvs => (match strKeys kvs with
      | some ks => if ks.length < 64 then some (.lst ((sortT ks).map .str)) else none
      | none => none)
    | _ => none)
  | _ => none
theorem leT_of {x p : Str} (h : ltCps x.cps.toList p.cps.toList = false) : leT p x = true := by
  rw [ltCps_eq] at h
  exact decide_eq_true (List.not_lt.mp (of_decide_eq_false h))
theorem rising_pairwise : ∀ (r : List Str) (p : Str), risingS p r = true → (p :: r).Pairwise fun a b => leT a b = true
  | [], p, _ => List.pairwise_singleton _ _
  | x :: r, p, h => by
    unfold risingS at h
    rw [Bool.and_eq_true, Bool.not_eq_true'] at h
    have ih := rising_pairwise r x h.2
    refine List.Pairwise.cons (fun y hy => ?_) ih
    rcases List.mem_cons.mp hy with rfl | hy
    · exact leT_of h.1
    · exact leT_trans _ _ _ (leT_of h.1) (List.rel_of_pairwise_cons ih hy)
theorem sorted_is {ys ks : List Str} (p : ys.Perm ks) (h : sortedS ys = true) : ys = sortT ks := by
  have hp : ys.Pairwise fun a b => leT a b = true := by
    cases ys with
    | nil => exact List.Pairwise.nil
    | cons x r => exact rising_pairwise r x h
  exact List.Perm.eq_of_pairwise (le := fun a b => leT a b = true) (fun a b _ _ => leT_anti a b) hp (sortT_pairwise ks) (p.trans (sortT_perm ks).symm)
section
variable {X : Cx} {W : WX} {e : Expr} {es : List Expr} {rs : RA} {pos p : Pos} {wd : World} {K : Fg} {mg : Str → Option Value} {F : Hp} {α : List Addr}
theorem strKeys_of {ws : List (Key × V)} {kvs : List (D × D)} (h : KVs wd K mg F α ws kvs) : ∀ {ks : List Str}, strKeys kvs = some ks → ws.map (·.1) = ks.map Sum.inr := by
  induction h with
  | nil => intro ks e; cases e; rfl
  | @cons j u e ws kvs h1 _ ih =>
    intro ks e1
    cases j with
    | inl i => cases e1
    | inr x =>
      obtain ⟨k2, e2, rfl⟩ := Option.map_eq_some_iff.mp (show (strKeys kvs).map (x :: ·) = some ks from e1)
      rw [List.map_cons, List.map_cons, ih e2]
theorem pf_sortKeys (hcalm : X.calm = true) (hm : X.mg "sorted" = none) (ha : PDs X W (e :: es) rs) (hg : Gl X "sorted" := by rfl) (he : starEach (e :: es) X.env = (false, eval e X.env) :: starEach es X.env := by rfl) (hpl : (backTo pos (starEach es X.env)).any (·.1) = false := by rfl) :
    PF X W (.Call (.Name "sorted" p) (e :: es) [] pos) (rAs gSortKeys rs) := pf_callB (call_sortedD hcalm) (fun α F H S xs ds z Q hr hv hz => by
  unfold gSortKeys at hz
  split at hz
  · cases hv with
    | cons h1 h2 =>
      cases h2
      split at hz
      · rename_i kvs e1
        split at hz
        · rename_i ks e2
          split at hz
          · rename_i hl
            cases hz
            obtain ⟨a, ws, rfl, q, k⟩ := hr.viewD h1 e1
            refine ⟨_, (sortT ks).map .str, rfl, DVs.of_strs _, fun hq => ⟨a, ws, ks, rfl, q, strKeys_of k e2, hl, fun ys p hp hs hn => ?_⟩⟩
            rw [sorted_is hp hs]
            exact hq p hn
          · cases hz
        · cases hz
      · cases hz
  · cases hz) hm ha hg (he := he) (hpl := hpl)
end
end DL
set_option Elab.async false
set_option linter.all false
set_option maxRecDepth 100000
set_option maxHeartbeats 4000000
set_option autoImplicit false
/-! a != b of two dicts whose values are numbers. -/
namespace DL
open PySem PySem.Spec PyProof.Rows L2
end DL
set_option Elab.async false
set_option linter.all false
set_option maxRecDepth 100000
set_option maxHeartbeats 4000000
set_option autoImplicit false
/-! d.clear() of a dict with keys ints and texts. -/
namespace DL
open PySem PySem.Spec PyProof.Rows L2
end DL
set_option Elab.async false
set_option linter.all false
set_option maxRecDepth 100000
set_option maxHeartbeats 4000000
set_option autoImplicit false
/-! a != b of two dicts whose values are data. -/
namespace DL
open PySem PySem.Spec PyProof.Rows L2
inductive HitsE (K : PySem.W.Frag) (H : Hp) (wm : List (Key × V)) : List (Key × V) → Bool → Prop
  | nil : HitsE K H wm [] true
  | miss {k : Key} {v : V} {r : List (Key × V)} : valV wm k = none → HitsE K H wm ((k, v) :: r) false
  | hit {k : Key} {v u : V} {x y : PyData} {r : List (Key × V)} {b : Bool} : valV wm k = some u → Dp K H v x → Dp K H u y → SeqAt.shaped x = true → SeqAt.shaped y = true → x.depth ≤ 60 → HitsE K H wm r b → HitsE K H wm ((k, v) :: r) (PyData.eqv x y && b)
theorem hits_ofE {X : Cx} {A : Around} {pins : List (Addr × Obj)} {σ : L2.St} {H : Hp} {s : Shared} (I : Inv X pins σ H s) (hu : A.units + 62 < cLine) {wm : List (Key × V)} {vm : List (Key × Value)} (rm : KV wm vm) {ws : List (Key × V)} {r : Bool} (h : HitsE X.K H wm ws r) : ∀ {vs : List (Key × Value)}, KV ws vs → PySem.W.KeqHits A s vm vs r := by
  induction h with
  | nil => intro vs hv; unfold KV at hv; cases hv; exact .nil
  | @miss k v r e =>
    intro vs hv
    unfold KV at hv
    cases hv with
    | @cons p q ps qs h1 h2 =>
      obtain ⟨qk, qv⟩ := q
      obtain ⟨e1, e2⟩ := h1
      have e1 : k = qk := e1
      subst e1
      exact .miss (RelO.none_of (by rw [← e]; exact rm.val k))
  | @hit k v u x y r b e hx hy sx sy dx _ ih =>
    intro vs hv
    unfold KV at hv
    cases hv with
    | @cons p q ps qs h1 h2 =>
      obtain ⟨qk, qv⟩ := q
      obtain ⟨e1, e2⟩ := h1
      have e1 : k = qk := e1
      subst e1
      have e2 : RelV v qv := e2
      have rv := rm.val k
      rw [e] at rv
      cases ev : valueAt vm k with
      | none => rw [ev] at rv; exact rv.elim
      | some z =>
        rw [ev] at rv
        have rv : RelV u z := rv
        obtain ⟨as, r1⟩ := Dp.reads I x v qv hx e2
        obtain ⟨bs, r2⟩ := Dp.reads I y u z hy rv
        exact .hit ev (SeqAt.eqAt_reads x y A s qv z as bs r1 r2 (SeqAt.canLay_of_shaped sx) (SeqAt.canLay_of_shaped sy) (by
          have : min x.depth y.depth ≤ x.depth := Nat.min_le_left _ _
          omega)) (ih h2)
/-- a != b of dicts -/
def eqPartE (S : Sto) (mvs : List (D × D)) : List (D × D) → Option Bool
  | [] => some true
  | (k, d) :: r => (match lookD mvs k with
    | none => some false
    | some e => (match toPy S d, toPy S e with
      | some x, some y => if SeqAt.shaped x && SeqAt.shaped y && decide (x.depth ≤ 60) then (eqPartE S mvs r).map fun b => PyData.eqv x y && b else none
      | _, _ => none))
section
variable {X : Cx} {W : WX} {wd : World} {K : Fg} {mg : Str → Option Value} {F H : Hp} {α : List Addr} {S : Sto}
theorem hitsE_of (s : Sub F H) {wm : List (Key × V)} {mvs : List (D × D)} (hm : KVs wd K mg F α wm mvs) {ws : List (Key × V)} {kvs : List (D × D)} (h : KVs wd K mg F α ws kvs) : ∀ {r : Bool}, eqPartE S mvs kvs = some r → HitsE K H wm ws r := by
  induction h with
  | nil => intro r e; cases e; exact .nil
  | @cons k v d ws kvs h1 _ ih =>
    intro r e
    obtain ⟨g1, g2⟩ := hm.look k
    unfold eqPartE at e
    cases el : lookD mvs (kD k) with
    | none => rw [el] at e; cases e; exact .miss (g2 el)
    | some z =>
      rw [el] at e
      dsimp only at e
      split at e
      · rename_i x y ex ey
        split at e
        · rename_i hc
          rw [Bool.and_eq_true, Bool.and_eq_true, decide_eq_true_eq] at hc
          obtain ⟨b, e1, rfl⟩ := Option.map_eq_some_iff.mp e
          obtain ⟨v', e2, e3⟩ := g1 _ el
          exact .hit e2 (DV.dp h1 ex s) (DV.dp e3 ey s) hc.1.1 hc.1.2 hc.2 (ih e1)
        · cases e
      · cases e
end
end DL
set_option Elab.async false
set_option linter.all false
set_option maxRecDepth 100000
set_option maxHeartbeats 4000000
set_option autoImplicit false
/-! sorted(d) of a dict with ints for keys, any number of them. -/
namespace L2
open PySem PySem.Spec PyProof.Rows
end L2
namespace DL
open PySem PySem.Spec PyProof.Rows L2
end DL
set_option Elab.async false
set_option linter.all false
set_option maxRecDepth 100000
set_option maxHeartbeats 4000000
set_option autoImplicit false
/-! enumerate(tuple). -/
namespace PySem
open Sem (wp)
open AutoSeq1 (wpAny_loadPart')
end PySem
namespace L2
open PySem PySem.Spec PyProof.Rows
end L2
namespace DL
open PySem PySem.Spec PyProof.Rows L2
end DL
set_option Elab.async false
set_option linter.all false
set_option maxRecDepth 100000
set_option maxHeartbeats 4000000
set_option autoImplicit false
/-! t[:0:-1] of a tuple that is not empty. -/
namespace DL
open PySem PySem.Spec PyProof.Rows L2
end DL
set_option Elab.async false
set_option linter.all false
set_option maxRecDepth 100000
set_option maxHeartbeats 4000000
set_option autoImplicit false
/-! xs.count(n) of ints. -/
namespace L2
open PySem PySem.Spec PyProof.Rows
end L2
namespace DL
open PySem PySem.Spec PyProof.Rows L2
end DL
set_option Elab.async false
set_option linter.all false
set_option maxRecDepth 100000
set_option maxHeartbeats 4000000
set_option autoImplicit false
/-! xs.extend(ys), ys a list of the store. -/
namespace DL
open PySem PySem.Spec PyProof.Rows L2
def mExtend : Sto → D → List D → Option (D × Sto) := fun S d ds => match d, ds with
  | .ptr k, [.ptr m] => (match S[k]?, S[m]? with
    | some (.lst xs), some (.lst ys) => if xs.length + ys.length ≤ sizeLine then some (.non, S.set k (.lst (xs ++ ys))) else none
    | _, _ => none)
  | _, _ => none
section
variable {X : Cx} {wd : World} {K : Fg} {mg : Str → Option Value} {F : Hp} {α : List Addr}
theorem m_extend : MdG X "list.extend" mExtend := by
  refine ⟨rExtend, mt_extend, fun α F H S x xs d ds z S' Q hr hx hv hz q => ?_⟩
  unfold mExtend at hz
  split at hz
  · rename_i k m
    split at hz
    · rename_i zs ys e e2
      split at hz
      · rename_i hl
        cases hz
        cases hx with
        | ptr ha =>
          obtain ⟨o, _⟩ := hr.own k _ _ ha e
          obtain ⟨us, o1, o2⟩ := o
          cases hv with
          | cons h1 h2 =>
            cases h2
            cases h1 with
            | ptr hb =>
              obtain ⟨p, _⟩ := hr.own m _ _ hb e2
              obtain ⟨ws, p1, p2⟩ := p
              obtain ⟨a1, a2⟩ := hr.setO (o := .lst (us ++ ws)) (d := .lst (zs ++ ys)) ha e rfl ⟨_, upd_same, o2.append p2⟩
              exact ⟨_, _, us, ws, rfl, rfl, o1, p1, by rw [o2.length, p2.length]; exact hl, q _ _ _ _ a1 a2 .non⟩
      · cases hz
    · cases hz
  · cases hz
end
end DL
set_option Elab.async false
set_option linter.all false
set_option maxRecDepth 100000
set_option maxHeartbeats 4000000
set_option autoImplicit false
/-! == of a list whose items are lists of the store, with data. -/
namespace DL
open PySem PySem.Spec PyProof.Rows L2
end DL
set_option Elab.async false
set_option linter.all false
set_option maxRecDepth 100000
set_option maxHeartbeats 4000000
set_option autoImplicit false
/-! zip(tuple, list). -/
namespace L2
open PySem PySem.Spec PyProof.Rows
end L2
namespace DL
open PySem PySem.Spec PyProof.Rows L2
end DL
set_option Elab.async false
set_option linter.all false
set_option maxRecDepth 100000
set_option maxHeartbeats 4000000
set_option autoImplicit false
/-! range by a step of -1; zip of three lists. -/
namespace L2
open PySem PySem.Spec PyProof.Rows
end L2
namespace DL
open PySem PySem.Spec PyProof.Rows L2
end DL
set_option Elab.async false
set_option linter.all false
set_option maxRecDepth 100000
set_option maxHeartbeats 4000000
set_option autoImplicit false
/-! sorted of a tuple; len of a dict. -/
namespace PySem.W
open PySem PySem.Calls PyProof.Rows
end PySem.W
namespace DL
open PySem PySem.Spec PyProof.Rows L2
open PySem.W
end DL
set_option Elab.async false
set_option linter.all false
set_option maxRecDepth 100000
set_option maxHeartbeats 4000000
set_option autoImplicit false
/-! a, b, c = x, y, z. -/
namespace DL
open PySem PySem.Spec PyProof.Rows L2
end DL
set_option Elab.async false
set_option linter.all false
set_option maxRecDepth 100000
set_option maxHeartbeats 4000000
set_option autoImplicit false
/-! list(d.items()), list(d), displays with tuple keys, d.values(), isinstance of one of some classes, defs that call themselves. -/
namespace DL
open PySem PySem.Spec PyProof.Rows L2
/-! ### list(d.items()) -/
/-! ### list(d) -/
end DL
set_option Elab.async false
set_option linter.all false
set_option maxRecDepth 100000
set_option maxHeartbeats 4000000
set_option autoImplicit false
/-! Displays with tuple keys, d.values(), isinstance of one of some classes, defs that call themselves. -/
namespace DL
open PySem PySem.Spec PyProof.Rows L2
/-! ### {t: v, ..} with tuples for keys -/
/-! ### for v in d.values(), d locked -/
def rValues (a : RE) : RA := fun δ S => (a δ S).bind fun d S1 => match d with
  | .ptr k => (match S1[k]? with
    | some (.lck (.dct kvs)) => .ok (kvs.map (·.2)) S1
    | _ => .stuck)
  | _ => .stuck
section
variable {X : Cx} {W : WX} {tg e : Expr} {ra : RE} {apos cpos : Pos} {wd : World} {K : Fg} {mg : Str → Option Value} {F H : Hp} {α : List Addr} {S : Sto}
theorem it_vals {a : Addr} {o : Obj} {ws : List (Key × V)} {kvs : List (D × D)} (hF : F a = some (.frz o (.dK ws))) (h : KVs wd K mg F α ws kvs) : ItOk wd K mg F α (Itd a o ws) (kvs.map (·.2)) where
  go := fun F' H' i s1 s2 hi => ⟨s2 _ _ (s1 _ _ hF), by rw [List.length_map] at hi; rw [h.length]; exact hi⟩
  stop := fun F' H' s1 s2 => ⟨s2 _ _ (s1 _ _ hF), by rw [List.length_map, h.length]; exact Nat.le_refl _⟩
  yld := fun F' H' H2 i x d s1 s2 hd q => by
    rw [List.getElem?_map] at hd
    obtain ⟨p, hp, rfl⟩ := Option.map_eq_some_iff.mp hd
    obtain ⟨k, v, e1, _, e3⟩ := h.at hp
    obtain ⟨z, k', e4⟩ := q
    rw [e1] at e4
    cases e4
    refine .inl ⟨z, ?_⟩
    have := e3.mono (β := []) s1
    rw [List.append_nil] at this
    exact this
theorem pid_values (ha : PD X W e ra) (hbase : attributeBase e "values" X.env (eval e X.env) = eval e X.env := by rfl) (hline : (apos.endLine == cpos.line) = true := by rfl) : PId X W tg (.Call (.Attribute e "values" apos) [] [] cpos) (rValues ra) := by
  obtain ⟨t, p1, s1⟩ := ha.ex
  refine ⟨_, pi_values p1 hbase hline, fun α F σ H δ S Q hr hs h => ?_⟩
  refine s1 α F σ H δ S _ hr hs (wp.bind h fun d S1 e1 x H1 β F1 r1 q1 v1 h1 => ?_)
  split at h1
  · split at h1
    · rename_i k kvs ek
      cases v1 with
      | ptr ea =>
        obtain ⟨⟨o, ws, g0, g1, g2, g3⟩, _⟩ := r1.own _ _ _ ea ek
        exact ⟨_, o, ws, rfl, g1, h1.now r1 (it_vals g0 (KVs.of g2 g3))⟩
    · exact h1.elim
  · exact h1.elim
end
/-! ### isinstance(x, (T, U, ..)) -/
/-! ### in, by itself -/
/-! ### defs that call themselves -/
/-- nothing is promised -/
def mStuck : Mir := fun _ _ => .stuck
theorem fn_stuck {P : Program} {w : World} {K : Fg} {mg : Str → Option Value} {base : Heap} {x : Str} {st : Stmt} {ps : List Str} {k : Nat} (Fu : Fd K mg x st ps) : Fn P w K mg base x ps.length k mStuck := by
  obtain ⟨f, fd, h1, h2, h3⟩ := Fu.ex
  exact ⟨f, fd, ps, h2, h1.kp, h3, fun vs H Q E h => h.1, fun A outer s H args us vs Q E hr hG e0 hb rv hsp => by
    obtain ⟨_, α, F, S, ds, _, _, h⟩ := hsp
    exact h.elim⟩
end DL
set_option Elab.async false
set_option linter.all false
set_option maxRecDepth 100000
set_option maxHeartbeats 4000000
set_option autoImplicit false
/-! t * n of tuples, d == e of dicts. -/
namespace DL
open PySem PySem.Spec PyProof.Rows L2
section
variable {X : Cx}
/-- t * n, t not empty, n from 2 on -/
def rRepP (K : Fg) : R2 := fun x y H Q => ∃ a n ys, x = .ref a ∧ y = .int n ∧ SqT K H a ys ∧ 0 < ys.length ∧ 2 ≤ n ∧ n ≤ 1000 ∧ ys.length ≤ 1000 ∧ TLays H (List.replicate n.toNat ys).flatten Q
theorem op_repP : OpR X (binaryOp .Mult) (rRepP X.K) := by
  intro pins s σ H x y v u Q I rx ry h
  obtain ⟨a, n, ys, rfl, rfl, tup, pos, low, high, few, q⟩ := h
  cases rx
  obtain ⟨tk, rfl⟩ := ry
  obtain ⟨us, rel, ⟨⟨cls, dd, data, sl⟩, here, isT, m, isS⟩, _⟩ := I.tuple tup
  simp only at isT isS
  subst isT isS
  have len : us.length = ys.length := rel.length.symm
  have sz : us.toArray.size = ys.length := by rw [List.size_toArray, len]
  have prod : ((us.toArray.size : Nat) : Int) * n ≤ 1000000 := by
    rw [sz]
    have := Int.mul_le_mul_of_nonneg_right (show ((ys.length : Nat) : Int) ≤ 1000 by omega) (show 0 ≤ n by omega)
    omega
  have fl : (List.replicate n.toNat us).flatten.length ≤ sizeLine := by
    rw [PyProof.Rows.lm_len_rep_flat, len, sizeLine_eq]
    exact Nat.le_trans (Nat.mul_le_mul (show n.toNat ≤ 1000 by omega) few) (by decide)
  have fl2 : (List.replicate n.toNat ys).flatten.length ≤ sizeLine := by
    rw [PyProof.Rows.lm_len_rep_flat, sizeLine_eq]
    exact Nat.le_trans (Nat.mul_le_mul (show n.toNat ≤ 1000 by omega) few) (by decide)
  have ne : us.toArray.isEmpty = false := by
    cases us with
    | nil => rw [List.length_nil] at len; omega
    | cons _ _ => rfl
  have k1 : (decide (n < -(2 ^ 63)) || decide (n ≥ 2 ^ 63)) = false := Bool.or_eq_false_iff.mpr ⟨decide_eq_false (by omega), decide_eq_false (by omega)⟩
  have k2 : (us.toArray.isEmpty || n == 1) = false := Bool.or_eq_false_iff.mpr ⟨ne, beq_eq_false_iff_ne.mpr (by omega)⟩
  have k3 : (decide (n ≤ 0) || us.toArray.isEmpty) = false := Bool.or_eq_false_iff.mpr ⟨decide_eq_false (by omega), ne⟩
  have k4 : Builtin.Tuple.tupleTooMany (((us.toArray.size : Nat) : Int) * n) = false := by
    unfold Builtin.Tuple.tupleTooMany
    rw [sizeLine_eq]
    exact decide_eq_false (by omega)
  have road := tuple_mulW a us.toArray m dd sl n tk k1 k2 k3 (by omega) k4 (by rw [size_rep, List.size_toArray]; exact fl)
  refine wpAny_binaryOp_repeat_ref (T := "tuple") (U := "int") (by decide) ⟨_, here, rfl⟩ (fun z => typeIs_int z n tk) noFill_tuple_mul PySem.F.fills_int_mul PySem.F.slot_int_rmul repeat_tuple PySem.F.slot_int_index.lookup
    (call_meets PySem.F.slot_int_rmul (typeIs_int s n tk) PySem.F.entry_int_rmul (PySem.F.args_int_rmul_2 _ _) (int_rmul_tuple n tk a us.toArray m dd sl) ⟨here, rfl, ⟨_, here, rfl⟩, call_meets PySem.F.slot_tuple_mul ⟨_, here, rfl⟩ PySem.F.entry_tuple_mul (PySem.F.args_tuple_mul_2 _ _) road ⟨here, ?_⟩⟩)
  rw [size_rep]
  exact ⟨.ref s.heap.objs.size, _, I.laid (t' := s.toks) (o := .frz (tupObj (List.replicate n.toNat us).flatten.toArray) (.tup (List.replicate n.toNat ys).flatten)) (fun b ob q => Heap.get?_push_of_some _ q) (Nat.le_refl _) (tup_frz fl2 (rel.rep n.toNat)), rfl, q _ (I.hok.fresh (Nat.le_refl _)) _ rfl⟩
end
def gRepT : Sto → D → D → Option D := fun S d e => match deref S d, e with
  | .tup xs, .int n => if 0 < xs.length ∧ 2 ≤ n ∧ n ≤ 1000 ∧ xs.length ≤ 1000 then some (.tup (List.replicate n.toNat xs).flatten) else none
  | _, _ => none
section
variable {X : Cx} {wd : World} {K : Fg} {mg : Str → Option Value} {F H : Hp} {α : List Addr} {S : Sto}
theorem g_repT : OpG X (binaryOp .Mult) gRepT := by
  refine ⟨_, op_repP, fun α F H S x y d e z Q hr hx hy hz q => ?_⟩
  unfold gRepT at hz
  split at hz
  · rename_i xs n e1
    split at hz
    · rename_i hc
      cases hz
      cases hy
      obtain ⟨a, vs, rfl, h1, h2⟩ := hr.viewT hx e1
      refine ⟨a, n, vs, rfl, rfl, h1, by rw [h2.length]; exact hc.1, hc.2.1, hc.2.2.1, by rw [h2.length]; exact hc.2.2.2, fun p hp o ho => ?_⟩
      obtain ⟨a1, a2⟩ := hr.newF (o := .frz o (.tup (List.replicate n.toNat vs).flatten)) hp
      exact q _ _ _ _ a1 a2 (.tup (PlT.new ho) ((h2.rep n.toNat).mono a2.sub))
    · cases hz
  · cases hz
end
end DL
set_option Elab.async false
set_option linter.all false
set_option maxRecDepth 100000
set_option maxHeartbeats 4000000
set_option autoImplicit false
/-! Plain part: what a mirror answers, told by what must hold of its answer. -/
namespace DL
open PySem L2
def Res.post {A : Type} (r : Res A) (Q : A → Sto → Prop) : Prop := match r with
  | .ok a S => Q a S
  | _ => False
def Out.post (o : Out) (nx : Sl → Sto → Prop) (rt : D → Sto → Prop) (bk ct : Sl → Sto → Prop) : Prop := match o with
  | .nx δ S => nx δ S
  | .rt d S => rt d S
  | .bk δ S => bk δ S
  | .ct δ S => ct δ S
  | _ => False
abbrev NoS : Sl → Sto → Prop := fun _ _ => False
abbrev NoD : D → Sto → Prop := fun _ _ => False
section
variable {A A' : Type} {r : Res A} {f : A → Sto → Res A'} {Q : A → Sto → Prop} {Q' : A' → Sto → Prop} {δ : Sl} {S : Sto} {QD : D → Sto → Prop} {QL : List D → Sto → Prop} {QB : Bool → Sto → Prop} {QS : Sl → Sto → Prop} {N B C : Sl → Sto → Prop} {T : D → Sto → Prop}
theorem Res.post.ok {a : A} (h : Q a S) : (Res.ok a S).post Q := h
theorem Res.post.ex (h : r.post Q) : ∃ a S, r = .ok a S ∧ Q a S := by
  cases r with
  | ok a S => exact ⟨a, S, rfl, h⟩
  | err => exact h.elim
  | stuck => exact h.elim
theorem Res.post.mono {Q1 : A → Sto → Prop} (h : r.post Q1) (k : ∀ a S, Q1 a S → Q a S) : r.post Q := by
  cases r with
  | ok a S => exact k a S h
  | err => exact h.elim
  | stuck => exact h.elim
theorem Res.post.of_eq {a : A} (h : r = .ok a S) (q : Q a S) : r.post Q := by rw [h]; exact q
theorem Out.post.mono {o : Out} {N1 B1 C1 : Sl → Sto → Prop} {T1 : D → Sto → Prop} (h : o.post N1 T1 B1 C1) (k1 : ∀ δ S, N1 δ S → N δ S) (k2 : ∀ d S, T1 d S → T d S) (k3 : ∀ δ S, B1 δ S → B δ S) (k4 : ∀ δ S, C1 δ S → C δ S) : o.post N T B C := by
  cases o with
  | nx δ S => exact k1 _ _ h
  | rt δ S => exact k2 _ _ h
  | bk δ S => exact k3 _ _ h
  | ct δ S => exact k4 _ _ h
  | err => exact h.elim
  | stuck => exact h.elim
theorem p_bind (h : r.post fun a S1 => (f a S1).post Q') : (r.bind f).post Q' := by
  cases r with
  | ok a S => exact h
  | err => exact h.elim
  | stuck => exact h.elim
theorem p_lift {o : Option A} {a : A} (h : o = some a) (q : Q a S) : (Res.lift o S).post Q := by rw [h]; exact q
theorem p_out {g : A → Sto → Out} (h : r.post fun a S1 => (g a S1).post N T B C) : (r.out δ g).post N T B C := by
  cases r with
  | ok a S => exact h
  | err => exact h.elim
  | stuck => exact h.elim
/-! expressions -/
theorem p_var {i : Nat} {d : D} (e : δ[i]? = some (some d)) (h : QD d S) : (rVar i δ S).post QD := by unfold rVar; rw [e]; exact h
theorem p_c {d : D} (h : QD d S) : (rC d δ S).post QD := h
theorem p_un {g : Sto → D → Option D} {a : RE} (h : (a δ S).post fun x S1 => (Res.lift (g S1 x) S1).post QD) : (rUn g a δ S).post QD := p_bind h
theorem p_bin {g : Sto → D → D → Option D} {a b : RE} (h : (a δ S).post fun x S1 => (b δ S1).post fun y S2 => (Res.lift (g S2 x y) S2).post QD) : (rBin g a b δ S).post QD := p_bind (h.mono fun _ _ q => p_bind q)
theorem p_as {g : Sto → List D → Option D} {a : RA} (h : (a δ S).post fun x S1 => (Res.lift (g S1 x) S1).post QD) : (rAs g a δ S).post QD := p_bind h
theorem p_nil (h : QL [] S) : (rNil δ S).post QL := h
theorem p_cons {a : RE} {b : RA} (h : (a δ S).post fun x S1 => (b δ S1).post fun ys S2 => QL (x :: ys) S2) : (rCons a b δ S).post QL := p_bind (h.mono fun _ _ q => p_bind (q.mono fun _ _ q => q))
theorem p_call {m : Mir} {a : RA} (h : (a δ S).post fun xs S1 => (m xs S1).post QD) : (rCall m a δ S).post QD := p_bind h
theorem p_if {c : RB} {a b : RE} (h : (c δ S).post fun k S1 => (k = true → (a δ S1).post QD) ∧ (k = false → (b δ S1).post QD)) : (rIf c a b δ S).post QD := p_bind (h.mono fun k _ q => by
  cases k with
  | true => exact q.1 rfl
  | false => exact q.2 rfl)
theorem p_own {a : RE} (h : (a δ S).post fun d S1 => QD (.ptr S1.length) (S1 ++ [d])) : (rOwn a δ S).post QD := p_bind (h.mono fun _ _ q => q)
theorem p_tup {a : RA} (h : (a δ S).post fun xs S1 => xs.length ≤ sizeLine ∧ QD (.tup xs) S1) : (rTup a δ S).post QD := p_bind (h.mono fun _ _ q => by rw [if_pos q.1]; exact q.2)
theorem p_lst {a : RA} (h : (a δ S).post fun xs S1 => xs.length ≤ sizeLine ∧ QD (.lst xs) S1) : (rLst a δ S).post QD := p_bind (h.mono fun _ _ q => by rw [if_pos q.1]; exact q.2)
theorem p_keep {a : RE} (h : (a δ S).post fun d S1 => ∃ ds, d = .lst ds ∧ QD (.lst ds) S1) : (rKeep a δ S).post QD := p_bind (h.mono fun d _ ⟨ds, e, q⟩ => by subst e; exact q)
theorem p_tru {a : RE} (h : (a δ S).post fun d S1 => (Res.lift (truth S1 d) S1).post QB) : (bTru a δ S).post QB := p_bind h
theorem p_and {a b : RB} (h : (a δ S).post fun k S1 => (k = true → (b δ S1).post QB) ∧ (k = false → QB false S1)) : (bAnd a b δ S).post QB := p_bind (h.mono fun k _ q => by
  cases k with
  | true => exact q.1 rfl
  | false => exact q.2 rfl)
theorem p_or {a b : RB} (h : (a δ S).post fun k S1 => (k = true → QB true S1) ∧ (k = false → (b δ S1).post QB)) : (bOr a b δ S).post QB := p_bind (h.mono fun k _ q => by
  cases k with
  | true => exact q.1 rfl
  | false => exact q.2 rfl)
theorem p_not {a : RB} (h : (a δ S).post fun k S1 => QB (!k) S1) : (bNot a δ S).post QB := p_bind (h.mono fun _ _ q => q)
theorem p_val {a : RE} (h : (a δ S).post fun d S1 => ∃ k, d = .bl k ∧ QB k S1) : (bVal a δ S).post QB := p_bind (h.mono fun _ _ ⟨k, e, q⟩ => by subst e; exact q)
theorem p_rand {a b : RE} (h : (a δ S).post fun x S1 => ∃ k, truth S1 x = some k ∧ (k = true → (b δ S1).post QD) ∧ (k = false → QD x S1)) : (rAnd a b δ S).post QD := p_bind (h.mono fun x S1 ⟨k, e, q⟩ => p_bind (p_lift e (by
  cases k with
  | true => exact q.1 rfl
  | false => exact q.2 rfl)))
theorem p_ror {a b : RE} (h : (a δ S).post fun x S1 => ∃ k, truth S1 x = some k ∧ (k = true → QD x S1) ∧ (k = false → (b δ S1).post QD)) : (rOr a b δ S).post QD := p_bind (h.mono fun x S1 ⟨k, e, q⟩ => p_bind (p_lift e (by
  cases k with
  | true => exact q.1 rfl
  | false => exact q.2 rfl)))
theorem p_rnot {a : RE} (h : (a δ S).post fun x S1 => ∃ k, truth S1 x = some k ∧ QD (.bl (!k)) S1) : (rNot a δ S).post QD := p_bind (h.mono fun x S1 ⟨k, e, q⟩ => p_bind (p_lift e q))
theorem p_chain {g g' : Sto → D → D → Option D} {a b c : RE} (h : (a δ S).post fun x S1 => (b δ S1).post fun y S2 => ∃ k, g S2 x y = some (.bl k) ∧ (k = true → (c δ S2).post fun u S4 => (Res.lift (g' S4 y u) S4).post QD) ∧ (k = false → QD (.bl false) S2)) : (rChain g g' a b c δ S).post QD :=
  p_bind (h.mono fun x S1 q => p_bind (q.mono fun y S2 ⟨k, e, q⟩ => p_bind (p_lift e (by
    cases k with
    | true => exact p_bind (q.1 rfl)
    | false => exact q.2 rfl))))
/-! statements -/
theorem s_next (h : N δ S) : (sNext δ S).post N T B C := h
theorem s_seq {a b : RS} (h : (a δ S).post (fun δ1 S1 => (b δ1 S1).post N T B C) T B C) : (sSeq a b δ S).post N T B C := by
  unfold sSeq
  cases q : a δ S with
  | nx δ1 S1 => rw [q] at h; exact h
  | _ => rw [q] at h; exact h
theorem s_asg {e : RE} {g : RG} (h : (e δ S).post fun d S1 => (g d δ S1).post fun δ1 S2 => N δ1 S2) : (sAsg e g δ S).post N T B C := p_out (h.mono fun _ _ q => p_out (q.mono fun _ _ q => q))
theorem s_name {i : Nat} {d : D} (hi : i < δ.length) (h : QS (δ.set i (some d)) S) : (gName i d δ S).post QS := by unfold gName; rw [if_pos hi]; exact h
theorem s_gtup {u : List D → Sl → Sto → Res Sl} {d : D} {ds : List D} (e : deref S d = .tup ds) (h : (u ds δ S).post QS) : (gTup u d δ S).post QS := by unfold gTup; rw [e]; exact h
theorem s_gnil (h : QS δ S) : (gNil [] δ S).post QS := h
theorem s_gcons {g : RG} {u : List D → Sl → Sto → Res Sl} {d : D} {r : List D} (h : (g d δ S).post fun δ1 S1 => (u r δ1 S1).post QS) : (gCons g u (d :: r) δ S).post QS := p_bind h
theorem s_expr {e : RE} (h : (e δ S).post fun _ S1 => N δ S1) : (sExpr e δ S).post N T B C := p_out (h.mono fun _ _ q => q)
theorem s_ret {e : RE} (h : (e δ S).post fun d S1 => T d S1) : (sRet e δ S).post N T B C := p_out (h.mono fun _ _ q => q)
theorem s_if {c : RB} {a b : RS} (h : (c δ S).post fun k S1 => (k = true → (a δ S1).post N T B C) ∧ (k = false → (b δ S1).post N T B C)) : (sIf c a b δ S).post N T B C := p_out (h.mono fun k _ q => by
  cases k with
  | true => exact q.1 rfl
  | false => exact q.2 rfl)
theorem s_brk (h : B δ S) : (sBreak δ S).post N T B C := h
theorem s_cont (h : C δ S) : (sCont δ S).post N T B C := h
theorem s_par {i j : Nat} {a : RA} (h : (a δ S).post fun xs S1 => ∃ x y, xs = [x, y] ∧ i < δ.length ∧ j < δ.length ∧ N ((δ.set i (some x)).set j (some y)) S1) : (sPar i j a δ S).post N T B C :=
  p_out (h.mono fun xs S1 ⟨x, y, e, h1, h2, q⟩ => by subst e; dsimp only; rw [if_pos ⟨h1, h2⟩]; exact q)
theorem s_for {it : RA} {g : RG} {b : RS} (h : (it δ S).post fun xs S1 => (forL g b xs δ S1).post N T B C) : (sFor it g b δ S).post N T B C := p_out h
/-- the loop's law: I holds ahead of each turn -/
theorem s_forL {g : RG} {b : RS} (I : List D → Sl → Sto → Prop) (step : ∀ x xs δ S, I (x :: xs) δ S → (g x δ S).post fun δ1 S1 => (b δ1 S1).post (fun δ2 S2 => I xs δ2 S2) T N fun δ2 S2 => I xs δ2 S2) (fin : ∀ δ S, I [] δ S → N δ S) :
    ∀ (xs : List D) (δ : Sl) (S : Sto), I xs δ S → (forL g b xs δ S).post N T B C
  | [], δ, S, h => fin δ S h
  | x :: xs, δ, S, h => by
    unfold forL
    refine p_out ((step x xs δ S h).mono fun δ1 S1 q => ?_)
    cases e : b δ1 S1 with
    | nx δ2 S2 => rw [e] at q; exact s_forL I step fin xs δ2 S2 q
    | ct δ2 S2 => rw [e] at q; exact s_forL I step fin xs δ2 S2 q
    | bk δ2 S2 => rw [e] at q; exact q
    | rt d S2 => rw [e] at q; exact q
    | err => rw [e] at q; exact q.elim
    | stuck => rw [e] at q; exact q.elim
theorem s_while {fuel : Sl → Sto → Nat} {c : RB} {b : RS} (h : (whileL c b (fuel δ S) δ S).post N T B C) : (sWhile fuel c b δ S).post N T B C := h
/-! walks -/
theorem p_seq {a : RE} (h : (a δ S).post fun x S1 => (∃ ds, x = .lst ds ∧ QL ds S1) ∨ (∃ ds, x = .tup ds ∧ QL ds S1) ∨ ∃ z, x = .str z ∧ QL (z.cps.toList.map fun c => .str ⟨#[c]⟩) S1) : (rSeq a δ S).post QL :=
  p_bind (h.mono fun x S1 q => by rcases q with ⟨ds, e, q⟩ | ⟨ds, e, q⟩ | ⟨z, e, q⟩ <;> subst e <;> exact q)
theorem p_range1 {a : RA} (h : (a δ S).post fun xs S1 => ∃ j, xs = [.int j] ∧ -(2 ^ 62) ≤ j ∧ j < 2 ^ 62 ∧ QL (rangeD 0 j) S1) : (rRange a δ S).post QL := p_bind (h.mono fun _ _ ⟨j, e, h1, h2, q⟩ => by subst e; dsimp only; rw [if_pos ⟨h1, h2⟩]; exact q)
theorem p_lc {it : RA} {g : RG} {vs : List Nat} {t : RB} {e : RE} (h : (it δ S).post fun xs S1 => (lcL g t e xs (wipeD δ vs) S1).post fun ys S2 => ys.length ≤ sizeLine ∧ QD (.lst ys) S2) : (rLc it g vs t e δ S).post QD :=
  p_bind (h.mono fun xs S1 q => p_bind (by
    obtain ⟨ys, S2, e1, e2⟩ := q.ex
    rw [e1]
    show (if ys.length ≤ sizeLine then Res.ok (D.lst ys) S2 else .stuck).post QD
    rw [if_pos e2.1]; exact e2.2))
theorem p_yes (h : QB true S) : (bYes δ S).post QB := h
/-! a def -/
theorem m_def {n : Nat} {b : RS} {ds : List D} (h : (b (ds.map some ++ List.replicate (n - ds.length) none) S).post
    (fun _ S1 => closedL S.length (S1.take S.length) = true ∧ QD .non (S1.take S.length)) (fun d S1 => (D.closed S.length d && closedL S.length (S1.take S.length)) = true ∧ QD d (S1.take S.length)) NoS NoS) : (mDef n b ds S).post QD := by
  unfold mDef
  cases q : b (ds.map some ++ List.replicate (n - ds.length) none) S with
  | nx δ S1 => rw [q] at h; dsimp only; rw [if_pos h.1]; exact h.2
  | rt d S1 => rw [q] at h; dsimp only; rw [if_pos h.1]; exact h.2
  | _ => rw [q] at h; exact h.elim
end
end DL
set_option Elab.async false
set_option linter.all false
set_option maxRecDepth 100000
set_option maxHeartbeats 1000000
set_option autoImplicit false
/-! x += e, x -= e of whole numbers. -/
namespace DL
open PySem PySem.Spec PyProof.Rows L2
end DL
set_option Elab.async false
set_option linter.all false
set_option maxRecDepth 100000
set_option maxHeartbeats 1000000
set_option autoImplicit false
/-! t * n of tuples, empty or once. -/
namespace DL
open PySem PySem.Spec PyProof PyProof.Rows L2
theorem tuple_mulE (l : Addr) (items : Array Value) (n : Nat) (dd : Option Addr) (sl : Array (Option Value)) (x : Int) (u : Tok) (c0 : (decide (x < -(2 ^ 63)) || decide (x ≥ 2 ^ 63)) = false) (c1 : (items.isEmpty || x == 1) = true) :
    Meets (Builtin.«tuple.__mul__» ⟨[.ref l, .int x u], []⟩) (fun _ R s => s.heap.get? l = some { cls := .type "tuple", dict := dd, data := .seq items n, slots := sl } ∧ R (.ok (.ret (Value.ref l))) s) :=
  .of_wp fun prog w A R s h => by
    obtain ⟨hp, g, d, tk, os⟩ := s
    obtain ⟨hl, h⟩ := h
    have f1 := AutoSeq1.idx_int
    wp_walk using wpAny_loadPart' hl
    repeat (first
      | (refine wpAny_ite_false (decide_eq_false (by rw [c0]; exact Bool.false_ne_true)) ?_; wp_walk using wpAny_loadPart' hl)
      | (refine wpAny_ite_true (decide_eq_true (by rw [c1])) ?_; wp_walk using wpAny_loadPart' hl))
    exact ⟨_, rfl, h⟩
section
variable {X : Cx}
/-- t * n of the empty tuple: the same thing -/
def rRepE (K : Fg) : R2 := fun x y H Q => ∃ a n, x = .ref a ∧ y = .int n ∧ SqT K H a [] ∧ -1000 ≤ n ∧ n ≤ 1000 ∧ Q (.ref a) H
theorem op_repE : OpR X (binaryOp .Mult) (rRepE X.K) := by
  intro pins s σ H x y v u Q I rx ry h
  obtain ⟨a, n, rfl, rfl, tup, low, high, q⟩ := h
  cases rx
  obtain ⟨tk, rfl⟩ := ry
  obtain ⟨us, rel, ⟨⟨cls, dd, data, sl⟩, here, isT, m, isS⟩, _⟩ := I.tuple tup
  simp only at isT isS
  subst isT isS
  have len : us = [] := List.length_eq_zero_iff.mp rel.length.symm
  subst len
  have k1 : (decide (n < -(2 ^ 63)) || decide (n ≥ 2 ^ 63)) = false := Bool.or_eq_false_iff.mpr ⟨decide_eq_false (by omega), decide_eq_false (by omega)⟩
  have road := tuple_mulE a ([] : List Value).toArray m dd sl n tk k1 rfl
  refine wpAny_binaryOp_repeat_ref (T := "tuple") (U := "int") (by decide) ⟨_, here, rfl⟩ (fun z => typeIs_int z n tk) noFill_tuple_mul PySem.F.fills_int_mul PySem.F.slot_int_rmul repeat_tuple PySem.F.slot_int_index.lookup
    (call_meets PySem.F.slot_int_rmul (typeIs_int s n tk) PySem.F.entry_int_rmul (PySem.F.args_int_rmul_2 _ _) (int_rmul_tuple n tk a ([] : List Value).toArray m dd sl) ⟨here, rfl, ⟨_, here, rfl⟩, call_meets PySem.F.slot_tuple_mul ⟨_, here, rfl⟩ PySem.F.entry_tuple_mul (PySem.F.args_tuple_mul_2 _ _) road ⟨here, ?_⟩⟩)
  exact ⟨.ref a, H, I, rfl, q⟩
theorem op_either {r1 r2 : R2} (h1 : OpR X (binaryOp .Mult) r1) (h2 : OpR X (binaryOp .Mult) r2) : OpR X (binaryOp .Mult) (fun x y H Q => r1 x y H Q ∨ r2 x y H Q) := by
  intro pins s σ H x y v u Q I rx ry h
  rcases h with h | h
  · exact h1 pins s σ H x y v u Q I rx ry h
  · exact h2 pins s σ H x y v u Q I rx ry h
end
def gRepX : Sto → D → D → Option D := fun S d e => match d, e with
  | .tup [], .int n => if -1000 ≤ n ∧ n ≤ 1000 then some (.tup []) else none
  | _, _ => gRepT S d e
section
variable {X : Cx}
theorem g_repX : OpG X (binaryOp .Mult) gRepX := by
  obtain ⟨r, o1, s1⟩ := g_repT (X := X)
  refine ⟨_, op_either op_repE o1, fun α F H S x y d e z Q hr hx hy hz q => ?_⟩
  unfold gRepX at hz
  split at hz
  · rename_i n
    split at hz
    · rename_i hc
      cases hz
      cases hy
      have e1 : deref S (.tup []) = .tup [] := rfl
      obtain ⟨a, vs, rfl, h1, h2⟩ := hr.viewT hx e1
      cases h2
      refine .inl ⟨a, n, rfl, rfl, h1, hc.1, hc.2, ?_⟩
      have an : α ++ [] = α := List.append_nil α
      exact q _ H [] F (by rw [an]; exact hr) Stp.refl (by rw [an]; exact hx)
    · cases hz
  · exact .inr (s1 α F H S x y d e z Q hr hx hy hz q)
end
end DL
set_option Elab.async false
set_option linter.all false
set_option maxRecDepth 100000
set_option maxHeartbeats 1000000
set_option autoImplicit false
/-! list.pop(i). -/
namespace DL
open PySem PySem.Spec PyProof.Rows L2
end DL
set_option Elab.async false
set_option linter.all false
set_option maxRecDepth 100000
set_option maxHeartbeats 3000000
set_option autoImplicit false
/-! Exceptions: an object in the heap is tracked; except clauses whose exception is kept. -/
namespace L2
open PySem PySem.Spec PyProof.Rows DL
section
variable {X : Cx} {pins : List (Addr × Obj)} {σ : List (Option V)} {H : Hp} {s : Shared}
/-- an object that stands in the heap, of no one as yet, is tracked -/
theorem Inv.track {a : Addr} {o : HO} (I : Inv X pins σ H s) (n0 : X.s_0.heap.get? a = none) (na : H a = none) (np : ∀ p ∈ X.pn ++ pins, p.1 ≠ a) (nL : a ≠ X.env.locals) (nc : ∀ x c, X.env.cells.lookup x = some c → c ≠ a)
    (new : ObjOk X.prog X.w (upd H a o) s.heap a o) : Inv X pins σ (upd H a o) s := by
  refine ⟨I.ok, I.os, I.bare, ⟨I.base.keep, I.base.slot, fun b u e n hx => ?_, I.base.there, fun b xs e => ?_, fun b u v e => ?_, fun b ps e => ?_⟩, I.loc, I.cell, ?_, fun x c e => ?_, fun p hp => ?_, fun b u e => ?_, I.len⟩
  · have z : b ≠ a := fun z => by rw [z, n0] at e; cases e
    rw [upd_ne z]
    exact I.base.free b u e n hx
  · have tt := I.base.tups b xs e
    rw [upd_ne (ne_of_none tt na)]
    exact tt
  · have ff := I.base.frzs b u v e
    rw [upd_ne (ne_of_none ff na)]
    exact ff
  · exact (I.base.tbls b ps e).imp fun m tb => by rw [upd_ne (ne_of_none tb na)]; exact tb
  · rw [upd_ne (Ne.symm nL)]
    exact I.free
  · rw [upd_ne (nc x c e)]
    exact I.freeC x c e
  · obtain ⟨h1, h2, h3, h4, h5⟩ := I.pin p hp
    exact ⟨h1, by rw [upd_ne (np p hp)]; exact h2, h3, h4, h5⟩
  · by_cases hb : b = a
    · subst hb
      rw [upd_same] at e
      cases e
      exact new
    · rw [upd_ne hb] at e
      exact (I.hok b u e).stay (fun c v _ q => q) (fun c q => by rw [upd_ne (ne_of_none q na)]; exact q) fun c xs q => by rw [upd_ne (ne_of_none q na)]; exact q
/-- the context of an except suite whose exception is tracked -/
abbrev Cx.held (X : Cx) (a : Addr) : Cx := { X with A := X.A.mark (some (.ref a)), calm := false, xe := fun _ _ => False }
theorem Inv.held (I : Inv X pins σ H s) (a : Addr) : Inv (X.held a) pins σ H s :=
  ⟨⟨I.ok.mod, I.ok.kind, I.ok.glob, I.ok.blt, I.ok.above, I.ok.inj, I.ok.has, I.ok.cab, (fun z => absurd (show false = true from z) Bool.false_ne_true), I.ok.frames, I.ok.stk, I.ok.exf, I.ok.bs, I.ok.bsz, I.ok.noex, I.ok.exfs, I.ok.funs, I.ok.frf⟩, I.os, I.bare, I.base, I.loc, I.cell, I.free, I.freeC, I.pin, I.hok, I.len⟩
theorem Inv.unheld {a : Addr} (I : Inv (X.held a) pins σ H s) (ok : X.Ok) : Inv X pins σ H s :=
  ⟨ok, I.os, I.bare, I.base, I.loc, I.cell, I.free, I.freeC, I.pin, I.hok, I.len⟩
end
/-- the wish of a clause 'except x as n': the exception is kept, at a -/
def wKeep (K : PySem.W.Frag) (c : Value) (i : Nat) (ts : Addr → TS) (Wout : WX) (D : Ends) : WX := fun cls d σ H => ∃ yes, PySem.W.exmOne K cls c = some yes ∧ (yes = false → Wout cls d σ H) ∧
  (yes = true → ∀ a, H a = none → ts a ⟨fun σ1 H1 => D.nx (σ1.set i none) H1, D.rt, fun σ1 H1 => D.bk (σ1.set i none) H1, fun σ1 H1 => D.ct (σ1.set i none) H1⟩ (σ.set i (some (.ref a))) (upd H a (exh a cls d)))
/-- what becomes of an exception that comes to the clauses -/
abbrev toClauses (X : Cx) (cl : List ExceptHandler) (Q : Flow → Shared → Prop) (u : Value) (z : Shared) : Prop :=
  wpAny (model X.prog X.w) X.A (noteFrame u X.env) (fun _ z1 => wpAny (model X.prog X.w) X.A (setFlight u none) (fun _ z2 => wpAny (model X.prog X.w) X.A (handleBy u X.env cl) Q X.xe z2) X.xe z1) X.xe z
section
variable {X : Cx} {pins : List (Addr × Obj)} {σ : St} {H : Hp} {B : Heap} {base z : Shared} {a : Addr} {cls : Value} {d : Option Addr}
/-- an exception that has come down to our frame; base: the state without it -/
structure Down (X : Cx) (pins : List (Addr × Obj)) (σ : St) (H : Hp) (B : Heap) (base : Shared) (a : Addr) (cls : Value) (d : Option Addr) (z : Shared) (hp : Heap) : Prop where
  inv : Inv X pins σ H base
  kept : ∀ b o, base.heap.get? b = some o → b ∉ frs X.stack → B.get? b = some o
  none_ : H a = none
  os : z.os = base.os
  bare : AllBare z.gens
  fl : HandSPX.FlyingZ B (X.env :: X.outer) a (Zc cls d) hp
  up : base.heap.UpToSlots hp
theorem Down.notFrame {hp : Heap} (k : Down X pins σ H B base a cls d z hp) : a ∉ frs (X.env :: X.outer) := by
  obtain ⟨o, vs, at_, _, flds⟩ := k.fl.there
  intro isF
  obtain ⟨_, o1, at1, nofields⟩ := k.fl.2.2.1.mem isF
  rw [at_] at at1
  exact nofields vs (by cases at1; exact flds)
theorem Down.land {hp : Heap} (k : Down X pins σ H B base a cls d z hp) : Inv X pins σ H ⟨hp, z.gens, z.drawn, z.toks, z.os⟩ :=
  Inv.landed (s' := ⟨hp, z.gens, z.drawn, z.toks, z.os⟩) k.inv k.kept k.fl.1 k.up k.os k.bare
theorem Down.local_ {hp : Heap} (k : Down X pins σ H B base a cls d z hp) (hf : X.env.frame = some X.env.locals) : a ≠ X.env.locals := by
  intro e
  apply k.notFrame
  rw [e]
  exact List.mem_filterMap.mpr ⟨X.env, List.mem_cons_self, hf⟩
theorem Down.new_ {hp : Heap} (k : Down X pins σ H B base a cls d z hp) (hs : X.stack = X.env :: X.outer) : base.heap.get? a = none := by
  cases there : base.heap.get? a with
  | none => rfl
  | some o =>
    have inB := k.kept a o there (hs ▸ k.notFrame)
    have notB := k.fl.2.1
    rw [notB] at inB
    cases inB
/-- it is tracked from now on -/
theorem Down.tracked {hp : Heap} (k : Down X pins σ H B base a cls d z hp) (hs : X.stack = X.env :: X.outer) (hf : X.env.frame = some X.env.locals) (hex : X.ex = []) : Inv X pins σ (upd H a (exh a cls d)) ⟨hp, z.gens, z.drawn, z.toks, z.os⟩ := by
  have new_ := k.new_ hs
  obtain ⟨o, vs, at_, kind, flds⟩ := k.fl.there
  refine k.land.track ?_ k.none_ ?_ (k.local_ hf) ?_ (exh_ok at_ kind flds)
  · cases there : X.s_0.heap.get? a with
    | none => rfl
    | some o0 =>
      have still := k.inv.base.there a o0 there (by rw [hex]; simp)
      rw [new_] at still
      exact still.elim fun _ w => nomatch w
  · intro p hp e
    have pinned := (k.inv.pin p hp).1
    rw [e, new_] at pinned
    cases pinned
  · intro y c hc e
    obtain ⟨v, oc, atc, isCell⟩ := k.land.cell y c hc
    rw [e] at atc
    have same := at_.symm.trans atc
    cases same
    rw [flds] at isCell
    cases isCell
end
section
variable {X : Cx} {x n : Str} {c : Value} {i : Nat} {body suite : List Stmt} {b₀ : Stmt} {np pos pos' : Pos} {tb : WX → TS} {ts : Addr → TS} {Wout : WX}
/-- the class that a clause names -/
theorem name_held {pins : List (Addr × Obj)} {σ : St} {H : Hp} {s : Shared} {Q E : Value → Shared → Prop} (I : Inv X pins σ H s) (hc : Names X x c) (a : Addr) (q : Q c s) : wpAny (model X.prog X.w) (X.A.mark (some (.ref a))) (eval (.Name x np) X.env) Q E s := by
  rcases hc with ⟨g, dbg, here | ⟨gone, built, nn⟩⟩
  · exact ld_glob (X := X.held a) (I.held a) g here q dbg
  · exact ld_blt (X := X.held a) (I.held a) g gone built q nn dbg
/-- an exception that no clause names flies on -/
theorem Down.on {pins : List (Addr × Obj)} {σ : St} {H : Hp} {B : Heap} {base z : Shared} {a : Addr} {cls : Value} {d : Option Addr} {hp : Heap} {D : Ends} (k : Down X pins σ H B base a cls d z hp) (hs : X.stack = X.env :: X.outer) (hf : X.env.frame = some X.env.locals) (tk : Takes X Wout) (w : Wout cls d σ H) :
    wpAny (model X.prog X.w) X.A (handleBy (.ref a) X.env []) (SP X pins D) X.xe ⟨hp, z.gens, z.drawn, z.toks, z.os⟩ := by
  apply wpAny_handleBy_nil
  have thrown : wpAny (model X.prog X.w) X.A (setFlight (.ref a) X.env.frame) (fun _ z1 => wpAny (model X.prog X.w) X.A (throw (.ref a) : Sem Flow) (SP X pins D) X.xe z1) X.xe ⟨hp, z.gens, z.drawn, z.toks, z.os⟩ := by
    rw [hf]
    exact HandSPX.setFlight_upZ (s := ⟨hp, z.gens, z.drawn, z.toks, z.os⟩) k.fl fun hp1 held up1 => wpAny_throw (tk _ _ ⟨a, B, base, pins, σ, H, cls, d, rfl, k.inv, k.kept, k.up.trans up1, .inr (.inr (hs ▸ held)), k.none_, k.os, k.bare, w⟩)
  rcases id k.fl with ⟨_, _, _, o, vs, tb, _, _, at_, _, flds, second, _⟩
  unfold PySem.passOn
  apply wpAny_bind
  apply wpAny_field at_ flds second
  have some_ : (Value.ref tb == Value.none) = false := by simp
  rw [some_]
  first
    | exact wpAny_bind thrown
    | exact wpAny_bind (wpAny_pure (wpAny_bind thrown))
theorem ps_try_keep (hs : X.stack = X.env :: X.outer) (hf : X.env.frame = some X.env.locals) (hex : X.ex = []) (hN : X.N.Nodup) (hi : X.N[i]? = some n) (hln : X.env.kindOf n = some .local) (hc : Names X x c) (tk : Takes X Wout)
    (hb : ∀ W pn xe, Takes (X.tr pn xe) W → PassesOwn (model X.prog X.w) X.A X.env xe → PSs (X.tr pn xe) body (tb W)) (hsu : ∀ a : Addr, PSs (X.held a) (b₀ :: suite) (ts a)) :
    PS X (.Try body [.ExceptHandler (some (.Name x np)) (some n) (b₀ :: suite) pos'] [] [] pos) (fun D σ H => tb (wKeep X.K c i ts Wout D) D σ H) := by
  constructor
  intro pins s σ H D inv pre
  have xok := inv.ok
  have frames : X.A.frames = some (X.env :: X.outer) := xok.frames.trans (congrArg some hs)
  apply wpAny_Try_except
  refine wpAny_mono ((hb (wKeep X.K c i ts Wout D) (X.pn ++ pins) (toClauses X [.ExceptHandler (some (.Name x np)) (some n) (b₀ :: suite) pos'] (SP X pins D)) (fun u z air => ?_) PassesOwn.looking).run [] s σ H D (inv.toTry _) pre) (fun f z1 out => ?_) (fun _ _ w => w)
  · obtain ⟨a, B, base, pp, σ1, H1, cls, d, rfl, J, keptB, up1, sky, n1, os1, ag1, yes, isIt, no, hit⟩ := air
    have sky1 : Sky B (X.env :: X.outer) a (Zc cls d) X.env.locals z.heap := hs ▸ sky
    refine Sky.land (s := z) Zc.steady frames hf sky1 fun hp1 fl1 up2 => ?_
    have dn : Down X pins σ1 H1 B base a cls d z hp1 := ⟨J.ofTry xok, keptB, n1, os1, ag1, fl1, up1.trans up2⟩
    obtain ⟨o, vs, at_, kind, flds⟩ := fl1.there
    have typed : PySem.W.Looks (model X.prog X.w) hp1 (typeOf (.ref a)) cls := fun _ _ _ _ more w => wpAny_typeOf_ref (more _ _ at_) (kind.1 ▸ w)
    have asked := PySem.W.exm_one (M := model X.prog X.w) dn.land.kIn typed isIt
    apply wpAny_handleBy_cons _ (by intro w; cases w)
    apply codeAny_handlers_test
    refine name_held dn.land hc a (asked.here ?_)
    cases yes with
    | false => exact dn.on hs hf tk (no rfl)
    | true =>
      refine codeAny_handlers_suite_as (HandSPX.lands_againZ fl1 fun hp2 fl2 up3 => ?_)
      have dn2 : Down X pins σ1 H1 B base a cls d z hp2 := ⟨J.ofTry xok, keptB, n1, os1, ag1, fl2, (up1.trans up2).trans up3⟩
      refine store_ok (X := X.held a) (v := .ref a) ((dn2.tracked hs hf hex).held a) hN hi (.inl hln) rfl (fun s2 I2 => ?_) (.inr hln)
      refine wpAny_mono ((hsu a).run pins s2 _ _ _ I2 (hit rfl a n1)) (fun g s3 out => ?_) (fun _ _ w => w.elim)
      cases g with
      | next => rcases out with ⟨σ3, H3, I3, w⟩; exact gone_ok (I3.unheld xok) hN hi hln fun s4 I4 => ⟨_, H3, I4, w⟩
      | brk => rcases out with ⟨σ3, H3, I3, w⟩; exact gone_ok (I3.unheld xok) hN hi hln fun s4 I4 => ⟨_, H3, I4, w⟩
      | cont => rcases out with ⟨σ3, H3, I3, w⟩; exact gone_ok (I3.unheld xok) hN hi hln fun s4 I4 => ⟨_, H3, I4, w⟩
      | ret u => rcases out with ⟨v3, σ3, H3, I3, rv, w⟩; exact gone_ok (I3.unheld xok) hN hi hln fun s4 I4 => ⟨v3, _, H3, I4, rv, w⟩
  · cases f with
    | next => rcases out with ⟨σ3, H3, I3, w⟩; exact wpAny_execs_nil ⟨σ3, H3, I3.ofTry xok, w⟩
    | brk => rcases out with ⟨σ3, H3, I3, w⟩; exact ⟨σ3, H3, I3.ofTry xok, w⟩
    | cont => rcases out with ⟨σ3, H3, I3, w⟩; exact ⟨σ3, H3, I3.ofTry xok, w⟩
    | ret u => rcases out with ⟨v3, σ3, H3, I3, rv, w⟩; exact ⟨v3, σ3, H3, I3.ofTry xok, rv, w⟩
end
end L2
set_option Elab.async false
set_option linter.all false
set_option maxRecDepth 100000
set_option maxHeartbeats 2000000
set_option autoImplicit false
/-! Exceptions: facts about the classes; raise, try. -/
namespace DL
open PySem PySem.Spec PyProof.Rows L2
/-- which class is under which -/
def subC (c x : Str) : Bool := decide (c = x) || decide (x = "LoopError")
/-- what the written part says of the exception classes -/
structure Xcl (K : Fg) (mg : Str → Option Value) (cl : List Str) : Prop where
  at_ : ∀ c ∈ cl, mg c = some (.ref (He.ga K c))
  ex : ∀ c ∈ cl, ∀ x ∈ cl, PySem.W.exmOne K (.ref (He.ga K c)) (.ref (He.ga K x)) = some (subC c x)
  is_ : ∀ c ∈ cl, ∀ x ∈ cl, PySem.W.kitOne K (.ref (He.ga K c)) (.ref (He.ga K x)) = some (subC c x)
  isV : ∀ c ∈ cl, PySem.W.kitOne K (.ref (He.ga K c)) (.type "ValueError") = some true
  ec : ∀ c ∈ cl, ExcC K (He.ga K c)
  xf : ∀ c ∈ cl, XfC K (He.ga K c)
  ty : ∀ c ∈ cl, PySem.W.typeIn K (.ref (He.ga K c)) = some (.type "type")
def sTryKeep (b : RS) (cl : List Str) (x : Str) (i : Nat) (h : RS) : RS := fun δ S => match b δ S with
  | .err c fs δ1 S1 => if decide (c ∈ cl) && decide (x ∈ cl) then (if subC c x then (match h (δ1.set i (some (.exc c (fs.map fun p => (.str p.1, p.2))))) S1 with
      | .nx δ2 S2 => .nx (δ2.set i none) S2
      | .rt d S2 => .rt d S2
      | .bk δ2 S2 => .bk (δ2.set i none) S2
      | .ct δ2 S2 => .ct (δ2.set i none) S2
      | _ => .stuck) else .err c fs δ1 S1) else .stuck
  | o => o
def tmS (wd : World) (K : Fg) (mg : Str → Option Value) (W : WX) (r : RS) : TS := fun E σ H => ∃ α F δ S, Rel wd K mg α F H S ∧ Slots wd K mg F α σ δ ∧ wpS wd K mg α F H (r δ S) E W
section
variable {X : Cx} {W : WX} {st : List Stmt} {r : RS}
theorem PSds.canon (h : PSds X W st r) : PSs X st (tmS X.w X.K X.mg W r) := by
  obtain ⟨t, p, s⟩ := h.ex
  exact ⟨fun pins s0 σ H D I ⟨α, F, δ, S, h1, h2, h3⟩ => p.run pins s0 σ H D I (s α F σ H δ S D h1 h2 h3)⟩
theorem Slots.gone {wd : World} {K : Fg} {mg : Str → Option Value} {F : Hp} {α : List Addr} {σ : L2.St} {δ : Sl} {i : Nat} (h : Slots wd K mg F α σ δ) : Slots wd K mg F α (σ.set i none) (δ.set i none) := by
  refine ⟨by rw [List.length_set, List.length_set]; exact h.1, fun j e g => ?_⟩
  by_cases z : j = i
  · subst z
    have hj : j < δ.length := by
      have := (List.getElem?_eq_some_iff.mp g).1
      rw [List.length_set] at this; exact this
    rw [List.getElem?_set_self hj] at g
    cases g
  · rw [List.getElem?_set_ne (Ne.symm z)] at g
    rw [List.getElem?_set_ne (Ne.symm z)]
    exact h.2 j e g
theorem strs_map {A B : Type} : ∀ {xs : List (Str × A)} {fs : List (Str × B)}, xs.map (·.1) = fs.map (·.1) → fs.map (fun p => D.str p.1) = xs.map (fun p => D.str p.1)
  | [], [], _ => rfl
  | [], _ :: _, h => by cases h
  | _ :: _, [], h => by cases h
  | x :: xs, f :: fs, h => by
    have h1 : x.1 = f.1 := (List.cons.inj h).1
    have h2 := (List.cons.inj h).2
    show D.str f.1 :: _ = D.str x.1 :: _
    rw [h1, strs_map h2]
/-- what was caught, as data -/
theorem exc_dv {wd : World} {K : Fg} {mg : Str → Option Value} {cl : List Str} {α : List Addr} {F H : Hp} {c : Str} {fs : List (Str × D)} {cls : Value} {dd : Option Addr} {a : Addr} (T : Xcl K mg cl) (hc : c ∈ cl) (na : F a = none)
    (he : ErrAt wd K mg F α c fs cls dd H) : DV wd K mg (upd F a (exh a cls dd)) α (.ref a) (.exc c (fs.map fun p => (.str p.1, p.2))) := by
  obtain ⟨e1, e2⟩ := he
  have e0 := T.at_ c hc
  have ec : cls = .ref (He.ga K c) := by rw [e0] at e1; exact (Option.some.inj e1).symm
  subst ec
  rcases e2 with ⟨rfl, rfl⟩ | ⟨d, xs, rfl, ed, en, ev⟩
  · exact .exc (ws := []) e0 upd_same (.inl ⟨rfl, rfl⟩) rfl .nil
  · have z : d ≠ a := fun z => by rw [z, na] at ed; cases ed
    refine .exc (ws := xs) e0 upd_same (.inr ⟨d, rfl, by rw [upd_ne z]; exact ed⟩) ?_ ?_
    · rw [List.map_map]
      exact strs_map en
    · rw [List.map_map]
      have := ev.mono (β := []) (Sub.new (o := exh a (.ref (He.ga K c)) (some d)) na)
      rw [List.append_nil] at this
      exact this
end
section
variable {X : Cx} {W : WX} {x n : Str} {cl : List Str} {i : Nat} {body suite : List Stmt} {b₀ : Stmt} {np pos pos' : Pos} {rb rh : RS}
theorem psd_tryKeep (T : Xcl X.K X.mg cl) (hx : x ∈ cl) (hN : X.N.Nodup) (tk : Takes X W)
    (hb : ∀ (W : WX) (pn : List (Addr × Obj)) (xe : Value → Shared → Prop), Takes (X.tr pn xe) W → PassesOwn (model X.prog X.w) X.A X.env xe → PSds (X.tr pn xe) W body rb)
    (hsu : ∀ a : Addr, PSds (X.held a) (fun _ _ _ _ => False) (b₀ :: suite) rh)
    (hs : X.stack = X.env :: X.outer := by rfl) (hf : X.env.frame = some X.env.locals := by rfl) (hex : X.ex = [] := by rfl) (hi : X.N[i]? = some n := by rfl) (hln : X.env.kindOf n = some .local := by rfl) (hg : Gl X x := by rfl) (hd : (x == ("__debug__" : Str)) = false := by decide) :
    PSd X W (.Try body [.ExceptHandler (some (.Name x np)) (some n) (b₀ :: suite) pos'] [] [] pos) (sTryKeep rb cl x i rh) := by
  refine ⟨_, ps_try_keep (c := .ref (He.ga X.K x)) (tb := fun W => tmS X.w X.K X.mg W rb) (ts := fun _ => tmS X.w X.K X.mg (fun _ _ _ _ => False) rh) hs hf hex hN hi hln ⟨hg, hd, .inl (T.at_ x hx)⟩ tk (fun W pn xe t p => (hb W pn xe t p).canon) (fun a => (hsu a).canon), fun α F σ H δ S E hr hsl h => ?_⟩
  refine ⟨α, F, δ, S, hr, hsl, ?_⟩
  unfold sTryKeep at h
  cases q : rb δ S with
  | nx δ1 S1 => rw [q] at h; exact h
  | rt d S1 => rw [q] at h; exact h
  | bk δ1 S1 => rw [q] at h; exact h
  | ct δ1 S1 => rw [q] at h; exact h
  | stuck => rw [q] at h; exact h
  | err c fs δ1 S1 =>
    rw [q] at h
    dsimp only at h
    split at h
    · rename_i hm
      rw [Bool.and_eq_true, decide_eq_true_eq, decide_eq_true_eq] at hm
      intro cls dd σ' H' β F' r1 s1 hs1 he
      have e0 := T.at_ c hm.1
      have ec : cls = .ref (He.ga X.K c) := by have e1 := he.1; rw [e0] at e1; exact (Option.some.inj e1).symm
      refine ⟨subC c x, by rw [ec]; exact T.ex c hm.1 x hx, fun hb => ?_, fun hb a na => ?_⟩
      rotate_left
      · rw [if_pos hb] at h
        obtain ⟨r2, s2⟩ := r1.newF (o := exh a cls dd) na
        have hdv := exc_dv T hm.1 (r1.notF na) he
        have hdv' := hdv.mono (β := []) (Sub.refl _)
        have hsl2 := (hs1.mono (β := []) s2.sub).set (i := i) hdv'
        refine ⟨α ++ β ++ [], _, _, S1, r2, hsl2, ?_⟩
        have st := s1.trans s2
        have aa : ∀ γ : List Addr, α ++ β ++ [] ++ γ = α ++ (β ++ [] ++ γ) := fun γ => by simp
        cases q2 : rh (δ1.set i (some (.exc c (fs.map fun p => (.str p.1, p.2))))) S1 with
        | nx δ2 S2 =>
          rw [q2] at h
          intro σ2 H2 γ F2 r3 s3 hs3
          rw [aa] at r3 hs3
          have s3' : Stp (α ++ (β ++ [])) (L2.upd F' a (exh a cls dd)) (L2.upd H' a (exh a cls dd)) γ F2 H2 := by rw [← List.append_assoc]; exact s3
          exact h (σ2.set i none) H2 (β ++ [] ++ γ) F2 r3 (st.trans s3') hs3.gone
        | rt d S2 =>
          rw [q2] at h
          intro v H2 γ F2 r3 s3 hs3
          rw [aa] at r3 hs3
          have s3' : Stp (α ++ (β ++ [])) (L2.upd F' a (exh a cls dd)) (L2.upd H' a (exh a cls dd)) γ F2 H2 := by rw [← List.append_assoc]; exact s3
          exact h v H2 (β ++ [] ++ γ) F2 r3 (st.trans s3') hs3
        | bk δ2 S2 =>
          rw [q2] at h
          intro σ2 H2 γ F2 r3 s3 hs3
          rw [aa] at r3 hs3
          have s3' : Stp (α ++ (β ++ [])) (L2.upd F' a (exh a cls dd)) (L2.upd H' a (exh a cls dd)) γ F2 H2 := by rw [← List.append_assoc]; exact s3
          exact h (σ2.set i none) H2 (β ++ [] ++ γ) F2 r3 (st.trans s3') hs3.gone
        | ct δ2 S2 =>
          rw [q2] at h
          intro σ2 H2 γ F2 r3 s3 hs3
          rw [aa] at r3 hs3
          have s3' : Stp (α ++ (β ++ [])) (L2.upd F' a (exh a cls dd)) (L2.upd H' a (exh a cls dd)) γ F2 H2 := by rw [← List.append_assoc]; exact s3
          exact h (σ2.set i none) H2 (β ++ [] ++ γ) F2 r3 (st.trans s3') hs3.gone
        | err c2 fs2 δ2 S2 => rw [q2] at h; exact h.elim
        | stuck => rw [q2] at h; exact h.elim
      · rw [hb] at h
        exact h cls dd σ' H' β F' r1 s1 hs1 he
    · exact h.elim
end
/-! ### raise -/
def sRaise0 (c : Str) : RS := fun δ S => .err c [] δ S
theorem psd_raise0 {X : Cx} {W : WX} {x m : Str} {j : Nat} {p p2 pos pos' : Pos} (hm : X.mg x = some (.ref (He.ga X.K x))) (q : PySem.W.excIn X.K (He.ga X.K x) He.veBase "ValueError.__new__" = true) (kC : PySem.W.keepIn X.K (.ref (He.ga X.K x)) = true)
    (h1 : PySem.W.subIn X.K (.ref (He.ga X.K x)) (.type "BaseException") = some true) (h2 : PySem.W.typeIn X.K (.ref (He.ga X.K x)) = some (.type "type")) (tk : Takes X W) (hc : X.calm = true := by rfl) (hg : Gl X x := by rfl) (hdb : (x == ("__debug__" : Str)) = false := by decide) :
    PSd X W (.Raise (some (.Call (.Name x p) [.Constant (.str m) j p2] [] pos)) none pos') (sRaise0 x) := by
  refine ⟨_, ps_raise hc tk (pmk_own PySem.F.excBase_ValueError q hm kC (raises_own h1 h2) hg hdb), fun α F σ H δ S E hr hs h => ?_⟩
  have h' : wpS X.w X.K X.mg α F H (.err x [] δ S) E W := h
  have e : α ++ [] = α := List.append_nil α
  exact h' _ none σ H [] F (by rw [e]; exact hr) Stp.refl (by rw [e]; exact hs) ⟨hm, .inl ⟨rfl, rfl⟩⟩
end DL
set_option Elab.async false
set_option linter.all false
set_option maxRecDepth 100000
set_option maxHeartbeats 2000000
set_option autoImplicit false
/-! Exceptions whose class has an own __init__. -/
namespace DL
open PySem PySem.Spec PyProof.Rows L2
/-- the base class, whose __init__ is ValueError's -/
structure LeC (K : Fg) (L : Addr) : Prop where
  ga : PySem.W.specialIn K (.ref L) "__getattribute__" = some (some (.builtin "type.__getattribute__"))
  rd : PySem.W.readsIn K L (.type "type") = true
  fi : PySem.W.findCls K (.ref L) (.type "type") "__init__" = some (.val (.builtin "ValueError.__init__"))
end DL
set_option Elab.async false
set_option linter.all false
set_option maxRecDepth 100000
set_option maxHeartbeats 2000000
set_option autoImplicit false
/-! isinstance of what was caught, its fields; count and index of flat things; upper. -/
namespace L2
open PySem PySem.Spec PyProof.Rows DL
/-- isinstance(e, c), e tracked -/
def rIsX (K : Fg) : List V → Hp → VK → Prop := fun xs H Q => ∃ (a D : Addr) (d : Option Addr) (c : V) (cv : Value) (b : Bool), xs = [.ref a, c] ∧ H a = some (exh a (.ref D) d) ∧ (d = none ∨ ∃ dd ws, d = some dd ∧ H dd = some (.xd ws)) ∧ ExcC K D ∧ (∀ u, RelV c u → u = cv) ∧
  PySem.W.kitOne K (.ref D) cv = some b ∧ Q (.bl b) H
theorem inst_of {X : Cx} {pins : List (Addr × Obj)} {σ : List (Option V)} {H : Hp} {s : Shared} {a D : Addr} {d : Option Addr} (I : Inv X pins σ H s) (ha : H a = some (exh a (.ref D) d)) (hd : d = none ∨ ∃ dd ws, d = some dd ∧ H dd = some (.xd ws)) :
    ∃ ox od, PySem.W.InstAt s.heap a ox D od ∧ ∀ dd ws, d = some dd → H dd = some (.xd ws) → ∃ (o : Obj) (m : Str → Option Value), od = some o ∧ (∀ name, PySem.W.lookIn name o = some (m name)) ∧ ∀ f, RelO (ws.lookup f) (m f) := by
  have ok : ObjOk X.prog X.w H s.heap a (exh a (.ref D) d) := I.hok a _ ha
  obtain ⟨⟨ox, vs, at_, ⟨kind, dict⟩, flds⟩, _, _⟩ := ok
  have plain : PySem.W.notCls ox = true := by unfold PySem.W.notCls; rw [flds] <;> rfl
  rcases hd with rfl | ⟨dd, ws, rfl, hw⟩
  · exact ⟨ox, none, ⟨at_, kind, plain, by rw [dict]; trivial⟩, fun _ _ z => nomatch z⟩
  · have okd : ObjOk X.prog X.w H s.heap dd (.xd ws) := I.hok dd _ hw
    obtain ⟨m, ns, rel⟩ := okd
    obtain ⟨o, there, look⟩ := lookIn_ns ns
    refine ⟨ox, some o, ⟨at_, kind, plain, by rw [dict]; exact there⟩, fun d2 ws2 e2 hw2 => ?_⟩
    cases e2
    rw [hw] at hw2
    cases hw2
    exact ⟨o, m, rfl, look, rel⟩
theorem call_isX {X : Cx} : CallR X (.builtin "isinstance") (rIsX X.K) := by
  intro pins s σ H xs us Q I r h
  obtain ⟨a, D, d, c, cv, b, rfl, ha, hd, C, only, e, q⟩ := h
  cases r with
  | cons rx rr =>
    cases rr with
    | cons rt rr =>
      cases rr
      cases rx
      obtain rfl := only _ rt
      obtain ⟨ox, od, J, _⟩ := inst_of I ha hd
      have some_ : (PySem.W.clsIn X.K D).isSome = true := by
        obtain ⟨cd, hc, _⟩ := PySem.W.any_some C.hd
        rw [hc]
        rfl
      exact PySem.W.kia_one (PySem.W.kitx_exc some_ C.hg C.hk C.hs C.ha C.hn C.ht C.hm) I.kIn J e (fun z => nomatch z) fun tk => ⟨.bl b, H, I.kept (t' := tk) fun _ _ z => z, rfl, q⟩
end L2
namespace DL
open PySem PySem.Spec PyProof.Rows L2
def gIsiE (cl : List Str) : Sto → List D → Option D := fun _ ds => match ds with
  | [.exc c _, .fn x] => if decide (c ∈ cl) && decide (x ∈ cl) then some (.bl (subC c x)) else none
  | [.exc c _, .ty n] => if decide (c ∈ cl) && decide (n = "ValueError") then some (.bl true) else none
  | _ => none
section
variable {X : Cx} {W : WX} {wd : World} {K : Fg} {mg : Str → Option Value} {α : List Addr} {F H : Hp} {S : Sto} {cl : List Str}
theorem exc_at (T : Xcl K mg cl) (r : Rel wd K mg α F H S) {v : V} {c : Str} {fs : List (D × D)} (hc : c ∈ cl) (h : DV wd K mg F α v (.exc c fs)) :
    ∃ a d ws, v = .ref a ∧ H a = some (exh a (.ref (He.ga K c)) d) ∧ (d = none ∨ ∃ dd ws, d = some dd ∧ H dd = some (.xd ws)) ∧ (d = none → fs = []) ∧ (∀ dd, d = some dd → H dd = some (.xd ws)) ∧ fs.map (·.1) = ws.map (fun p => .str p.1) ∧ DVs wd K mg F α (ws.map (·.2)) (fs.map (·.2)) := by
  cases h with
  | exc h1 h2 h3 h4 h5 =>
    rename_i C a d ws
    have e := T.at_ c hc
    rw [h1] at e
    have e2 : C = He.ga K c := Value.ref.inj (Option.some.inj e)
    subst e2
    refine ⟨a, d, ws, rfl, r.sub _ _ h2, ?_, ?_, ?_, h4, h5⟩
    · rcases h3 with ⟨e, _⟩ | ⟨dd, e, q⟩
      · exact .inl e
      · exact .inr ⟨dd, ws, e, r.sub _ _ q⟩
    · intro e
      rcases h3 with ⟨_, ew⟩ | ⟨dd, e2, _⟩
      · rw [ew] at h4
        exact List.map_eq_nil_iff.mp h4
      · rw [e] at e2; cases e2
    · intro dd e
      rcases h3 with ⟨e2, _⟩ | ⟨d2, e2, q⟩
      · rw [e] at e2; cases e2
      · rw [e] at e2; cases e2; exact r.sub _ _ q
theorem b_isiE (T : Xcl X.K X.mg cl) : BiG X (.builtin "isinstance") (gIsiE cl) := by
  refine ⟨_, call_isX, fun α F H S xs ds z Q hr hv hz q => ?_⟩
  unfold gIsiE at hz
  split at hz
  · rename_i c fs x
    split at hz
    · rename_i hm
      rw [Bool.and_eq_true, decide_eq_true_eq, decide_eq_true_eq] at hm
      cases hz
      cases hv with
      | cons h1 h2 =>
        cases h2 with
        | cons h3 h4 =>
          cases h4
          obtain ⟨a, d, ws, rfl, ha, hd, _⟩ := exc_at T hr hm.1 h1
          cases h3 with
          | fn hx =>
            have e := T.at_ x hm.2
            rw [hx] at e
            have e2 := Value.ref.inj (Option.some.inj e)
            subst e2
            exact ⟨a, _, d, _, .ref (He.ga X.K x), _, rfl, ha, hd, T.ec c hm.1, fun u r => r, T.is_ c hm.1 x hm.2, fin_now hr (.bl _) q⟩
    · cases hz
  · rename_i c fs n
    split at hz
    · rename_i hm
      rw [Bool.and_eq_true, decide_eq_true_eq, decide_eq_true_eq] at hm
      cases hz
      obtain ⟨hc, rfl⟩ := hm
      cases hv with
      | cons h1 h2 =>
        cases h2 with
        | cons h3 h4 =>
          cases h4
          obtain ⟨a, d, ws, rfl, ha, hd, _⟩ := exc_at T hr hc h1
          cases h3
          exact ⟨a, _, d, _, .type "ValueError", _, rfl, ha, hd, T.ec c hc, fun u r => r, T.isV c hc, fin_now hr (.bl _) q⟩
    · cases hz
  · cases hz
theorem pd_cls {x : Str} {a : Addr} {pos : Pos} (hm : X.mg x = some (.ref a)) (hg : Gl X x := by rfl) (hd : (x == ("__debug__" : Str)) = false := by decide) : PD X W (.Name x pos) (rC (.fn x)) := pd_c (v := .ref a) (pe_glob hg hm rfl hd) fun _ _ => .fn hm
end
end DL
set_option Elab.async false
set_option linter.all false
set_option maxRecDepth 100000
set_option maxHeartbeats 2000000
set_option autoImplicit false
/-! What the head shows of the exception classes; except clauses without a name. -/
namespace DL
open PySem PySem.Spec PyProof.Rows L2
theorem bv_ValueError : bootBuiltins "ValueError" = some (.type "ValueError") := by decide +kernel
theorem Env1.tr {X : Cx} {k : Nat} (h : Env1 X k) (pn : List (Addr × Obj)) (xe : Value → Shared → Prop) (p : PassesOwn (model X.prog X.w) X.A X.env xe) : Env1 (X.tr pn xe) k := ⟨h.room, h.gu, p⟩
/-! ### except C: suite -/
/-! ### checks -/
def flds : List Str := ["row", "word", "boxes", "what", "place"]
def ecB (K : Fg) (D : Addr) : Bool := decide (PySem.W.findIn K (.ref D) "__getattribute__" = some (some (.builtin "BaseException.__getattribute__"))) && (decide (PySem.W.findIn K (.ref D) "__getattr__" = some none) && (decide (PySem.W.subIn K (.ref D) (.type "BaseException") = some true) &&
  (PySem.W.hasDictIn K D && (decide (PySem.W.findIn K (.ref D) "__class__" = some (some (.builtin "object.__class__"))) && (decide (PySem.W.specialIn K (.builtin "object.__class__") "__get__" = some (some (.builtin "getset_descriptor.__get__"))) &&
  (decide (PySem.W.takesIn K (.builtin "object.__class__") = some true) && decide (PySem.W.mroIn K D (.type "object") = some true)))))))
theorem both {a b : Bool} (h : (a && b) = true) : a = true ∧ b = true := Bool.and_eq_true_iff.mp h
theorem ecB_ok {K : Fg} {D : Addr} (h : ecB K D = true) : ExcC K D := by
  obtain ⟨h1, h⟩ := both h
  obtain ⟨h2, h⟩ := both h
  obtain ⟨h3, h⟩ := both h
  obtain ⟨h4, h⟩ := both h
  obtain ⟨h5, h⟩ := both h
  obtain ⟨h6, h⟩ := both h
  obtain ⟨h7, h8⟩ := both h
  exact ⟨of_decide_eq_true h1, of_decide_eq_true h2, of_decide_eq_true h3, h4, of_decide_eq_true h5, of_decide_eq_true h6, of_decide_eq_true h7, of_decide_eq_true h8⟩
def pairB (K : Fg) (c x : Str) : Bool := decide (PySem.W.exmOne K (.ref (He.ga K c)) (.ref (He.ga K x)) = some (subC c x)) && decide (PySem.W.kitOne K (.ref (He.ga K c)) (.ref (He.ga K x)) = some (subC c x))
def oneB (K : Fg) (c : Str) : Bool := decide (PySem.W.nsIn K mainGlobals c = some (some (.ref (He.ga K c)))) && (decide (PySem.W.kitOne K (.ref (He.ga K c)) (.type "ValueError") = some true) && (ecB K (He.ga K c) && (xfB K (He.ga K c) && (decide (PySem.W.typeIn K (.ref (He.ga K c)) = some (.type "type")) &&
  flds.all fun f => decide (PySem.W.findIn K (.ref (He.ga K c)) f = some none)))))
def clsB (K : Fg) (cl : List Str) : Bool := (cl.all (oneB K)) && cl.all fun c => cl.all fun x => pairB K c x
theorem clsB_ok {K : Fg} {h : Heap} {mg : Str → Option Value} {cl : List Str} (X : K.In h) (G : h.Ns mainGlobals mg) (c : clsB K cl = true) : Xcl K mg cl ∧ ∀ f ∈ flds, ∀ c ∈ cl, PySem.W.findIn K (.ref (He.ga K c)) f = some none := by
  obtain ⟨a1, a2⟩ := both c
  have one : ∀ c ∈ cl, oneB K c = true := List.all_eq_true.mp a1
  have pair : ∀ c ∈ cl, ∀ x ∈ cl, pairB K c x = true := fun c hc => List.all_eq_true.mp (List.all_eq_true.mp a2 c hc)
  refine ⟨⟨fun c hc => ?_, fun c hc x hx => ?_, fun c hc x hx => ?_, fun c hc => ?_, fun c hc => ?_, fun c hc => ?_, fun c hc => ?_⟩, fun f hf c hc => ?_⟩
  · exact PySem.W.mg_of X G (of_decide_eq_true (both (one c hc)).1)
  · exact of_decide_eq_true (both (pair c hc x hx)).1
  · exact of_decide_eq_true (both (pair c hc x hx)).2
  · exact of_decide_eq_true (both (both (one c hc)).2).1
  · exact ecB_ok (both (both (both (one c hc)).2).2).1
  · exact xfB_ok (both (both (both (both (one c hc)).2).2).2).1
  · exact of_decide_eq_true (both (both (both (both (both (one c hc)).2).2).2).2).1
  · exact of_decide_eq_true (List.all_eq_true.mp (both (both (both (both (both (one c hc)).2).2).2).2).2 f hf)
def oexB (K : Fg) (C : Addr) : Bool := (match K.lookup C with
  | some ⟨.type "type", _, .cls cd, sl⟩ => (match cd.mro, sl.toList with
    | .ref D :: bm, [_, _, _, _, some (.builtin n), _] => decide (D = C) && (decide (n = "ValueError.__new__") && (!cd.hasDel && (cd.hasDict && PySem.HandSPX.refsVE bm)))
    | _, _ => false)
  | _ => false) && (decide (PySem.W.findIn K (.ref C) "__setattr__" = some (some (.builtin "object.__setattr__"))) && (decide (PySem.W.subIn K (.ref C) (.type "BaseException") = some true) && (decide (PySem.W.typeIn K (.ref C) = some (.type "type")) && PySem.W.keepIn K (.ref C))))
def leB (K : Fg) : Bool := decide (PySem.W.nsIn K mainGlobals "LoopError" = some (some (.ref (He.ga K "LoopError")))) && (decide (PySem.W.specialIn K (.ref (He.ga K "LoopError")) "__getattribute__" = some (some (.builtin "type.__getattribute__"))) &&
  (PySem.W.readsIn K (He.ga K "LoopError") (.type "type") && (match PySem.W.findCls K (.ref (He.ga K "LoopError")) (.type "type") "__init__" with
  | some (.val v) => decide (v = .builtin "ValueError.__init__")
  | _ => false)))
theorem leB_ok {K : Fg} {h : Heap} {mg : Str → Option Value} (X : K.In h) (G : h.Ns mainGlobals mg) (c : leB K = true) : LeC K (He.ga K "LoopError") ∧ mg "LoopError" = some (.ref (He.ga K "LoopError")) := by
  obtain ⟨h0, c⟩ := both c
  obtain ⟨h1, c⟩ := both c
  obtain ⟨h2, h3⟩ := both c
  refine ⟨⟨of_decide_eq_true h1, h2, ?_⟩, PySem.W.mg_of X G (of_decide_eq_true h0)⟩
  split at h3
  · rename_i v e
    rw [e, of_decide_eq_true h3]
  · cases h3
/-- a raised class without an __init__ of its own -/
structure R0 (K : Fg) (mg : Str → Option Value) (c : Str) : Prop where
  at_ : mg c = some (.ref (He.ga K c))
  ex : PySem.W.excIn K (He.ga K c) He.veBase "ValueError.__new__" = true
  kp : PySem.W.keepIn K (.ref (He.ga K c)) = true
  sub : PySem.W.subIn K (.ref (He.ga K c)) (.type "BaseException") = some true
  ty : PySem.W.typeIn K (.ref (He.ga K c)) = some (.type "type")
theorem psd_raiseC {X : Cx} {W : WX} {x m : Str} {j : Nat} {p p2 pos pos' : Pos} (R : R0 X.K X.mg x) (tk : Takes X W) (hc : X.calm = true := by rfl) (hg : Gl X x := by rfl) (hdb : (x == ("__debug__" : Str)) = false := by decide) :
    PSd X W (.Raise (some (.Call (.Name x p) [.Constant (.str m) j p2] [] pos)) none pos') (sRaise0 x) := psd_raise0 R.at_ R.ex R.kp R.sub R.ty tk hc hg hdb
/-! ### the head's hook -/
def raB (K : Fg) (c : Str) : Bool := (He.Fa.exc c).ok K && decide (PySem.W.nsIn K mainGlobals c = some (some (.ref (He.ga K c))))
theorem raB_ok {K : Fg} {h : Heap} {mg : Str → Option Value} {c : Str} (X : K.In h) (G : h.Ns mainGlobals mg) (e : raB K c = true) : R0 K mg c := by
  obtain ⟨h1, h2⟩ := both e
  obtain ⟨g1, g2, g3, g4⟩ := He.exc_ok h1
  exact ⟨PySem.W.mg_of X G (of_decide_eq_true h2), g1, g2, g3, g4⟩
def inB (K : Fg) (c : Str) : Bool := oexB K (He.ga K c) && ((He.Fa.meth c "__init__").ok K && (decide (PySem.W.typeIn K (.ref (He.ma K (He.ga K c) "__init__")) = some (.type "function")) && oneB K c))
structure Xh where
  cl : List Str
  r0 : List Str
  rn : List Str
def xhB (xh : Xh) (K : Fg) : Bool := clsB K xh.cl && (leB K && (xh.r0.all (raB K) && xh.rn.all (inB K)))
def obsX (fa : List He.Fa) (fn : List He.DefD) (li : List (Str × D)) (xh : Xh) (K : Fg) : He.AlD := (digB K && (xhB xh K && (li.all (litF K) && (He.obsD fa fn K).1)), (He.obsD fa fn K).2)
def SaysX (fa : List He.Fa) (fn : List He.DefD) (li : List (Str × D)) (xh : Xh) (K : Fg) : Prop := obsX fa fn li xh K = He.valD fn
theorem SaysX.all {fa : List He.Fa} {fn : List He.DefD} {li : List (Str × D)} {xh : Xh} {K : Fg} (h : SaysX fa fn li xh K) : He.SaysD fa fn K ∧ NoDig K ∧ (∀ (i : Nat) (p : Str × D), li[i]? = some p → litF K p = true) ∧ xhB xh K = true := by
  have h0 : obsX fa fn li xh K = He.valD fn := h
  have h1 : (digB K && (xhB xh K && (li.all (litF K) && (He.obsD fa fn K).1))) = true := congrArg (fun z : He.AlD => z.1) h0
  have h2 : (obsX fa fn li xh K).2 = (He.valD fn).2 := congrArg (fun z : He.AlD => z.2) h0
  obtain ⟨g1, h1⟩ := both h1
  obtain ⟨g2, h1⟩ := both h1
  obtain ⟨g3, g4⟩ := both h1
  refine ⟨?_, ?_, fun i p hp => List.all_eq_true.mp g3 p (List.mem_of_getElem? hp), g2⟩
  · show He.obsD fa fn K = He.valD fn
    exact Prod.ext g4 h2
  · unfold digB at g1
    unfold NoDig
    exact of_decide_eq_true g1
end DL
set_option Elab.async false
set_option linter.all false
set_option maxRecDepth 100000
set_option maxHeartbeats 1000000
set_option autoImplicit false
/-! A made list that is told once stands for good. -/
namespace DL
open PySem PySem.Spec PyProof.Rows L2
def rFrz (r : RE) : RE := fun δ S => (r δ S).bind fun d S1 => match d with
  | .ptr k => (match S1[k]? with
    | some (.lst ds) => .ok (.lst ds) (S1.set k .non)
    | _ => .stuck)
  | _ => .stuck
section
variable {wd : World} {K : Fg} {mg : Str → Option Value} {α : List Addr} {F H : Hp} {S : Sto}
theorem stand_rel (hr : Rel wd K mg α F H S) {k : Nat} {a : Addr} {ds : List D} (ea : α[k]? = some a) (q2 : S[k]? = some (.lst ds)) :
    ∃ xs, Stp α F H [] (upd F a (.lst xs)) H ∧ Rel wd K mg α (upd F a (.lst xs)) H (S.set k .non) ∧ DV wd K mg (upd F a (.lst xs)) α (.ref a) (.lst ds) := by
  obtain ⟨o1, o2⟩ := hr.own k a _ ea q2
  obtain ⟨xs, o3, o4⟩ := o1
  have hf := o2 rfl
  have sb : Sub F (upd F a (.lst xs)) := Sub.new hf
  have an : α ++ [] = α := List.append_nil α
  refine ⟨xs, ⟨(fun _ h => nomatch h), sb, fun _ _ _ h => h, fun _ h => h, fun b h1 h2 _ => ?_⟩, ⟨fun b u e => ?_, by rw [List.length_set]; exact hr.len, hr.nd, hr.here, fun j b u g1 g2 => ?_⟩, .lst (.inl (Rd.of upd_same)) (by have := o4.mono (β := []) sb; rw [an] at this; exact this)⟩
  · have z : b ≠ a := fun z => h1 (z ▸ List.mem_of_getElem? ea)
    rw [upd_ne z]
    exact h2
  · by_cases z : b = a
    · subst z
      rw [upd_same] at e
      rw [o3]
      exact e
    · rw [upd_ne z] at e
      exact hr.sub _ _ e
  · by_cases z : j = k
    · subst z
      rw [List.getElem?_set_self (List.getElem?_eq_some_iff.mp q2).1] at g2
      cases g2
      exact ⟨trivial, fun z => (nomatch z)⟩
    · rw [List.getElem?_set_ne (Ne.symm z)] at g2
      obtain ⟨h3, h4⟩ := hr.own j b u g1 g2
      have y : b ≠ a := fun y => by
        subst y
        exact z ((List.getElem_inj hr.nd).mp ((List.getElem?_eq_some_iff.mp g1).2.trans (List.getElem?_eq_some_iff.mp ea).2.symm))
      have h5 : Own wd K mg (upd F a (.lst xs)) (α ++ []) H b u := h3.mono sb rfl
      rw [an] at h5
      exact ⟨h5, fun hd => by rw [upd_ne y]; exact h4 hd⟩
end
section
variable {X : Cx} {W : WX} {e : Expr} {r : RE}
theorem pd_frz (h : PD X W e r) : PD X W e (rFrz r) := by
  obtain ⟨t, p, s⟩ := h.ex
  refine ⟨t, p, fun α F σ H δ S Q hr hs h0 => s α F σ H δ S Q hr hs ?_⟩
  refine wp.bind h0 fun d S1 eq0 x H1 β F1 r1 q1 v1 h1 => ?_
  cases v1 with
  | ptr ea =>
    rename_i k a
    have h1 : wp X.w X.K X.mg (α ++ β) F1 H1 (relD X.w X.K X.mg) (match S1[k]? with
      | some (.lst ds) => .ok (.lst ds) (S1.set k .non)
      | _ => .stuck) Q (fun c d H' => W c d σ H') := h1
    cases q2 : S1[k]? with
    | none => rw [q2] at h1; exact h1.elim
    | some u =>
      rw [q2] at h1
      cases u with
      | lst ds =>
        obtain ⟨xs, s1, r2, v2⟩ := stand_rel r1 ea q2
        have an : α ++ β ++ [] = α ++ β := List.append_nil _
        exact h1 (.ref a) H1 [] (upd F1 a (.lst xs)) (by rw [an]; exact r2) s1 (by rw [an]; exact v2)
      | _ => exact h1.elim
  | _ => exact h1.elim
end
end DL
set_option Elab.async false
set_option linter.all false
set_option maxRecDepth 100000
set_option maxHeartbeats 1000000
set_option autoImplicit false
/-! A slice of a list, laid new; a dict that no name holds, locked where it is told. -/
namespace DL
open PySem PySem.Spec PyProof PyProof.Rows L2
/-! lists in a list, each made: all stand for good -/
end DL
set_option Elab.async false
set_option linter.all false
set_option maxRecDepth 100000
set_option maxHeartbeats 1000000
set_option autoImplicit false
/-! sum(lists, []). -/
namespace DL
open PySem PySem.Spec PyProof PyProof.Rows L2
def LAt (h : Heap) (b : Addr) (its : Array Value) : Prop := ∃ cn dd sl, h.get? b = some { cls := .type "list", dict := dd, data := .seq its cn, slots := sl }
section
variable {prog : Program} {w : World} {A : Around} {E : Value → Shared → Prop} {s : Shared}
theorem LAt.push {h : Heap} {b : Addr} {its : Array Value} {o : Obj} (x : LAt h b its) : LAt (h.push o) b its := let ⟨a1, a2, a3, a4⟩ := x; ⟨a1, a2, a3, Heap.get?_push_of_some _ a4⟩
theorem LAt.lt {h : Heap} {b : Addr} {its : Array Value} (x : LAt h b its) : b < h.objs.size := let ⟨_, _, _, a4⟩ := x; Heap.lt_size a4
end
/-! by the tracked heap -/
/-! by data -/
end DL
set_option Elab.async false
set_option linter.all false
set_option maxRecDepth 100000
set_option maxHeartbeats 4000000
set_option autoImplicit false
/-! Sets whose elements are keys of any depth: searching, putting in. -/
namespace DL
open PySem PySem.Spec PyProof.Rows L2
/-- the tuple at b bears the key k -/
def KyN (g : Heap) (k : NestedKey) (b : Addr) : Prop := NestedIs g k (.ref b) ∧ k.depth ≤ 8
/-! ### the way of a search -/
abbrev Row := Addr × NestedKey
def entN (w : World) (p : Row) : Int × Value := (p.2.hash w, Value.ref p.1)
/-! ### the set -/
/-- the set at a holds the rows L -/
structure HoldN (w : World) (g : Heap) (a : Addr) (L : List Row) (es : Array (Int × Value)) (ep : Nat) (t : SetTable) : Prop where
  ob : ∃ o, g.get? a = some o ∧ o.ExactSet ∧ o.data = .set es ep t
  rows : es.toList = L.map (entN w)
  tab : TabOk t (L.map fun p => (entN w p).1)
  nd : (L.map (·.2)).Nodup
  keys : ∀ p ∈ L, KyN g p.2 p.1
  led : w.params.followText "set-order" = true ∨ t.led = true
  room : L.length * 5 < t.mask * 3
  few : L.length < 64
end DL
set_option Elab.async false
set_option linter.all false
set_option maxRecDepth 100000
set_option maxHeartbeats 4000000
set_option autoImplicit false
/-! Sets whose elements are keys of any depth: putting in, set(list). -/
namespace DL
open PySem PySem.Spec PyProof.Rows L2
section
variable {P : Program} {w : World} {A : Around} {E : Value → Shared → Prop} {s : Shared} {a : Addr} {L : List Row} {es : Array (Int × Value)} {ep : Nat} {t : SetTable}
theorem HoldN.keep {g g' : Heap} (R : HoldN w g a L es ep t) (ha : ∀ o, g.get? a = some o → g'.get? a = some o) (hk : ∀ p ∈ L, KyN g' p.2 p.1) : HoldN w g' a L es ep t := by
  obtain ⟨o, ho, r⟩ := R.ob
  exact ⟨⟨o, ha o ho, r⟩, R.rows, R.tab, R.nd, hk, R.led, R.room, R.few⟩
/-- the first i of ks are in it -/
structure InN (ks : List Row) (i : Nat) (L : List Row) : Prop where
  sub : ∀ p ∈ L, p ∈ ks
  all : ∀ (j : Nat) (p : Row), j < i → ks[j]? = some p → p.2 ∈ L.map (·.2)
  len : L.length ≤ i
theorem InN.next {ks L L' : List Row} {i : Nat} {x : Row} (g : InN ks i L) (e : ks[i]? = some x) (h : x.2 ∈ L.map (·.2) ∧ L' = L ∨ x.2 ∉ L.map (·.2) ∧ L'.Perm (x :: L)) : InN ks (i + 1) L' := by
  rcases h with ⟨h1, rfl⟩ | ⟨_, pm⟩
  · refine ⟨g.sub, fun j p hj ep => ?_, Nat.le_succ_of_le g.len⟩
    rcases Nat.lt_or_ge j i with z | z
    · exact g.all j p z ep
    · have : j = i := by omega
      subst this
      rw [e] at ep
      cases ep
      exact h1
  · refine ⟨fun p hp => ?_, fun j p hj ep => ?_, ?_⟩
    · rcases List.mem_cons.mp (pm.mem_iff.mp hp) with z | z
      · rw [z]; exact List.mem_of_getElem? e
      · exact g.sub p z
    · rw [(pm.map (·.2)).mem_iff, List.map_cons]
      rcases Nat.lt_or_ge j i with z | z
      · exact List.mem_cons_of_mem _ (g.all j p z ep)
      · have : j = i := by omega
        subst this
        rw [e] at ep
        cases ep
        exact List.mem_cons_self
    · rw [pm.length_eq, List.length_cons]
      exact Nat.succ_le_succ g.len
end
end DL
set_option Elab.async false
set_option linter.all false
set_option maxRecDepth 100000
set_option maxHeartbeats 4000000
set_option autoImplicit false
/-! min of a list of data, d.pop(k) of a dict with tuple keys, d != {}. -/
namespace PySem.W
open PySem PySem.SeqAt PyProof PyProof.Rows
section
variable {prog : Program} {w : World} {A : Around} {E : Value → Shared → Prop} {s : Shared}
/-- d != {}: no key is asked -/
theorem ne_bare {a b : Addr} {oa ob : Obj} {es es' : Array DictEntry} {ep ep' : Nat} {Q : Value → Shared → Prop} (ha : (a == sysModules) = false) (hb : (b == sysModules) = false) (ta : s.TypeIs (.ref a) "dict") (tb : s.TypeIs (.ref b) "dict")
    (hoa : s.heap.get? a = some oa) (hda : oa.data = .dict es ep) (hob : s.heap.get? b = some ob) (hdb : ob.data = .dict es' ep') (h0 : es'.size = 0) (hu : A.units < cLine) (h : Q (.bool (!(es.size == 0))) s) :
    wpAny (model prog w) A (compareOp .NotEq (.ref a) (.ref b)) Q E s := by
  refine wpAny_richCompare_same_room (op := .NotEq) ta tb PySem.F.slot_dict_ne (wpAny_call_entry PySem.F.slot_dict_ne ta PySem.F.entry_dict_ne ?_ (PySem.F.args_dict_ne_2 _ _)) hu
  show wpAny _ _ (Builtin.Dict.dictSlotArgs "__ne__" ⟨[.ref a, .ref b], []⟩ >>= _) _ _ s
  refine wpAny_bind ?_
  unfold Builtin.Dict.dictSlotArgs
  refine wpAny_bind (wpAny_notOrdered_dict ta ?_)
  show wpAny _ _ (pure (Value.ref a, Value.ref b)) _ _ s
  refine wpAny_pure ?_
  refine wpAny_bind (wpAny_isInstance (T := "dict") tb PySem.F.sub_dict_dict ?_)
  simp only [Bool.not_true, Bool.false_eq_true, if_false]
  refine wpAny_bind (wpAny_pure (wpAny_bind (wpAny_pure ?_)))
  refine wpAny_bind ?_
  unfold Builtin.Dict.samePairs Builtin.Dict.showsAll
  rw [if_neg (show ¬ (a == sysModules) = true by rw [ha]; exact Bool.false_ne_true), if_neg (show ¬ (b == sysModules) = true by rw [hb]; exact Bool.false_ne_true)]
  refine wpAny_bind (wpAny_pure (wpAny_bind (wpAny_pure ?_)))
  refine wpAny_bind (wpAny_dictEntries hoa hda ?_)
  dsimp only
  refine wpAny_bind (wpAny_dictEntries hob hdb ?_)
  by_cases hsz : es.size = es'.size
  case neg =>
    rw [if_pos (by simpa using hsz)]
    have hbf : (es.size == 0) = false := by rw [h0] at hsz; simpa using hsz
    rw [hbf] at h
    refine wpAny_bind (wpAny_rule (wpAny_pure ?_))
    refine wpAny_pure ⟨_, rfl, ?_, ?_⟩
    · exact fun x => nomatch x
    · simpa using h
  case pos =>
    rw [if_neg (by rw [hsz]; simp)]
    have hbt : (es.size == 0) = true := by rw [hsz, h0]; rfl
    rw [hbt] at h
    refine wpAny_bind (wpAny_dictEpoch hoa hda ?_)
    refine wpAny_bind ?_
    rw [Std.Legacy.Range.forIn_eq_forIn_range']
    simp only [Std.Legacy.Range.size, Nat.sub_zero, Nat.add_sub_cancel, Nat.div_one]
    rw [hsz, h0]
    refine wpAny_forIn_list _ (fun rest q s' => s' = s ∧ q = (none, ()) ∧ rest = []) _ ?_ ?_ _ _ ⟨rfl, rfl, rfl⟩
    · rintro x rest q s' ⟨_, _, hr⟩
      cases hr
    · rintro q s' ⟨rfl, rfl, _⟩
      refine wpAny_pure ?_
      refine wpAny_pure ⟨_, rfl, ?_, ?_⟩
      · exact fun x => nomatch x
      · simpa using h
end
end PySem.W
namespace DL
open PySem PySem.Spec PyProof PyProof.Rows L2
open PySem.W
/-! ### d.pop(k) -/
/-- d != {} -/
def gNeB : Sto → D → D → Option D := fun S a b => match deref S a, deref S b with
  | .dct kvs, .dct mvs => if mvs.isEmpty then some (.bl (!(kvs.length == 0))) else none
  | .dcn kvs, .dct mvs => if mvs.isEmpty then some (.bl (!(kvs.length == 0))) else none
  | _, _ => none
theorem dk_empty {X : Cx} {pins : List (Addr × Obj)} {σ : L2.St} {H : Hp} {s : Shared} {b : Addr} (I : Inv X pins σ H s) (h : Rd H b (.dK [])) : (b == sysModules) = false ∧ s.TypeIs (.ref b) "dict" ∧ ∃ ob es ep, s.heap.get? b = some ob ∧ ob.data = .dict es ep ∧ es.size = 0 := by
  obtain ⟨_, hd, vs, rel, dd⟩ := dk_rd I.hok h
  have ty := dd.typeIs
  obtain ⟨o, es, ep, h1, h2, h3, h4, h5, _⟩ := dd
  refine ⟨hd, ty, o, es, ep, h1, h3, ?_⟩
  have l1 := rel.length
  have l2 := h5.length
  rw [← Array.length_toList, l2, ← l1]
  rfl
theorem op_neB {X : Cx} (hu : X.A.units + 64 < cLine) : OpR X (compareOp .NotEq) (fun x y H Q => ∃ (a b : Addr) (n : Nat), x = .ref a ∧ y = .ref b ∧ Rd H b (.dK []) ∧ ((∃ ws, Rd H a (.dK ws) ∧ ws.length = n) ∨ ∃ xs, NAt X.w H a xs ∧ NKeys X.K H xs ∧ xs.length = n) ∧ Q (.bl (!(n == 0))) H) := by
  intro pins s σ H x y v u Q I rx ry h
  obtain ⟨a, b, n, rfl, rfl, hb, ha, q⟩ := h
  obtain rfl : v = Value.ref a := rx
  obtain rfl : u = Value.ref b := ry
  obtain ⟨b1, b2, ob, es', ep', b3, b4, b5⟩ := dk_empty I hb
  rcases ha with ⟨ws, hw, rfl⟩ | ⟨xs, hx, hk, rfl⟩
  · obtain ⟨_, hd, vs, rel, dd⟩ := dk_rd I.hok hw
    have ty := dd.typeIs
    obtain ⟨o, es, ep, h1, h2, h3, h4, h5, _⟩ := dd
    have hs : es.size = ws.length := by rw [← Array.length_toList, h5.length, rel.length]
    refine ne_bare hd b1 ty b2 h1 h3 b3 b4 b5 (by omega) ⟨.bl _, H, I, rfl, ?_⟩
    rw [hs]
    exact q
  · obtain ⟨_, hd, vs, rel, dd⟩ := n_at I hx hk
    have ty := dd.typeIs
    obtain ⟨o, es, ep, h1, h2, h3, h4, _⟩ := dd
    have hs : es.size = xs.length := by rw [← Array.length_toList, h4, List.length_map, rel.length]
    refine ne_bare hd b1 ty b2 h1 h3 b3 b4 b5 (by omega) ⟨.bl _, H, I, rfl, ?_⟩
    rw [hs]
    exact q
theorem g_neB {X : Cx} (hu : X.A.units + 64 < cLine) : OpG X (compareOp .NotEq) gNeB := by
  refine ⟨_, op_neB hu, fun α F H S x y d e z Q hr hx hy hz q => ?_⟩
  have an : α ++ [] = α := List.append_nil α
  unfold gNeB at hz
  split at hz
  · rename_i kvs mvs e1 e2
    split at hz
    · rename_i hm
      cases hz
      obtain rfl : mvs = [] := List.isEmpty_iff.mp hm
      obtain ⟨a, ws, rfl, p1, p2⟩ := hr.viewD hx e1
      obtain ⟨b, wm, rfl, m1, m2⟩ := hr.viewD hy e2
      cases m2
      refine ⟨a, b, kvs.length, rfl, rfl, m1, .inl ⟨ws, p1, p2.length⟩, ?_⟩
      exact q _ H [] F (by rw [an]; exact hr) Stp.refl (.bl _)
    · cases hz
  · rename_i kvs mvs e1 e2
    split at hz
    · rename_i hm
      cases hz
      obtain rfl : mvs = [] := List.isEmpty_iff.mp hm
      obtain ⟨b, wm, rfl, m1, m2⟩ := hr.viewD hy e2
      cases m2
      have sn := hr.see hx
      rw [e1] at sn
      cases sn with
      | «at» h _ => cases h
      | @dcn a xs _ rd nv =>
        refine ⟨a, b, kvs.length, rfl, rfl, m1, .inr ⟨xs, .inl rd, nv.keys hr.sub, nv.length⟩, ?_⟩
        exact q _ H [] F (by rw [an]; exact hr) Stp.refl (.bl _)
    · cases hz
  · cases hz
end DL
set_option Elab.async false
set_option linter.all false
set_option maxRecDepth 100000
set_option maxHeartbeats 4000000
set_option autoImplicit false
/-! l.remove(x) by data. -/
namespace DL
open PySem PySem.Spec PyProof PyProof.Rows L2
end DL
set_option Elab.async false
set_option linter.all false
set_option maxRecDepth 100000
set_option maxHeartbeats 4000000
set_option autoImplicit false
/-! l.extend(tuple); a dict, perhaps locked, locked where it is told. -/
namespace L2
open PySem PySem.Calls PySem.Spec PyProof PyProof.Rows
end L2
namespace DL
open PySem PySem.Spec PyProof PyProof.Rows L2
end DL
set_option Elab.async false
set_option linter.all false
set_option maxRecDepth 100000
set_option maxHeartbeats 4000000
set_option autoImplicit false
/-! list(d) of a dict with tuple keys. -/
namespace DL
open PySem PySem.Spec PyProof PyProof.Rows L2
end DL
set_option Elab.async false
set_option linter.all false
set_option maxRecDepth 100000
set_option maxHeartbeats 4000000
set_option autoImplicit false
/-! sorted(d) of a dict with tuple keys. -/
namespace DL
open PySem PySem.Spec PyProof PyProof.Rows L2
end DL
set_option Elab.async false
set_option linter.all false
set_option maxRecDepth 100000
set_option maxHeartbeats 4000000
set_option autoImplicit false
/-! Sorting lists of tuples, empty ones among them. -/
namespace DL
open PySem PySem.Spec PyProof PyProof.Rows L2
end DL
set_option Elab.async false
set_option linter.all false
set_option maxRecDepth 100000
set_option maxHeartbeats 4000000
set_option autoImplicit false
/-! Data layer: sorted(set(list of tuples)). -/
namespace DL
open PySem PySem.Spec PyProof PyProof.Rows L2
end DL
set_option Elab.async false
set_option linter.all false
set_option maxRecDepth 100000
set_option maxHeartbeats 1000000
set_option autoImplicit false
/-! sum(tuples, ()). -/
namespace DL
open PySem PySem.Spec PyProof PyProof.Rows L2
/-! by the tracked heap -/
/-! by data -/
end DL
set_option Elab.async false
set_option linter.all false
set_option maxRecDepth 100000
set_option maxHeartbeats 4000000
set_option autoImplicit false
/-! Data layer: instances of the program's own classes: made, their fields read and set, their methods called. -/
namespace DL
open PySem PySem.Spec PyProof.Rows L2
/-! ### fields by name -/
def fldI (f : Str) : List (D × D) → Option D
  | [] => none
  | (.str g, d) :: r => if f = g then some d else fldI f r
  | _ => none
def putI (f : Str) (v : D) : List (D × D) → List (D × D)
  | [] => [(.str f, v)]
  | (.str g, x) :: r => if g = f then (.str g, v) :: r else (.str g, x) :: putI f v r
  | r => r
section
variable {wd : World} {K : Fg} {mg : Str → Option Value} {F : Hp} {α : List Addr}
theorem fldI_look {f : Str} : ∀ {vs : List (Str × V)} {fs : List (D × D)}, fs.map (·.1) = (vs.map (·.1)).map D.str → DVs wd K mg F α (vs.map (·.2)) (fs.map (·.2)) →
    (∀ d, fldI f fs = some d → ∃ v, vs.lookup f = some v ∧ DV wd K mg F α v d) ∧ (fldI f fs = none → vs.lookup f = none)
  | [], [], _, _ => ⟨(fun _ e => nomatch e), fun _ => rfl⟩
  | [], _ :: _, e, _ => by simp at e
  | _ :: _, [], e, _ => by simp at e
  | (g, v) :: vs, (q, d) :: fs, e, h => by
    rw [List.map_cons, List.map_cons, List.map_cons] at e
    injection e with e1 e2
    dsimp only at e1
    subst e1
    rw [List.map_cons, List.map_cons] at h
    cases h with
    | cons h1 h2 =>
      obtain ⟨i1, i2⟩ := fldI_look (f := f) e2 h2
      have ef : fldI f ((D.str g, d) :: fs) = if f = g then some d else fldI f fs := rfl
      rw [ef]
      by_cases z : f = g
      · subst z
        rw [if_pos rfl]
        refine ⟨fun d' e' => ?_, (fun e' => nomatch e')⟩
        cases e'
        exact ⟨v, List.lookup_cons_self, h1⟩
      · rw [if_neg z]
        have hb : (f == g) = false := beq_eq_false_iff_ne.mpr z
        have el : List.lookup f ((g, v) :: vs) = List.lookup f vs := by simp only [List.lookup, hb]
        rw [el]
        exact ⟨i1, i2⟩
theorem putI_ok {f : Str} {v : V} {d : D} (hv : DV wd K mg F α v d) : ∀ {vs : List (Str × V)} {fs : List (D × D)}, fs.map (·.1) = (vs.map (·.1)).map D.str → DVs wd K mg F α (vs.map (·.2)) (fs.map (·.2)) →
    (putI f d fs).map (·.1) = ((putF f v vs).map (·.1)).map D.str ∧ DVs wd K mg F α ((putF f v vs).map (·.2)) ((putI f d fs).map (·.2))
  | [], [], _, _ => ⟨rfl, .cons hv .nil⟩
  | [], _ :: _, e, _ => by simp at e
  | _ :: _, [], e, _ => by simp at e
  | (g, x) :: vs, (q, y) :: fs, e, h => by
    rw [List.map_cons, List.map_cons, List.map_cons] at e
    injection e with e1 e2
    dsimp only at e1
    subst e1
    rw [List.map_cons, List.map_cons] at h
    cases h with
    | cons h1 h2 =>
      obtain ⟨i1, i2⟩ := putI_ok (f := f) hv e2 h2
      have ef : putI f d ((D.str g, y) :: fs) = if g = f then (.str g, d) :: fs else (.str g, y) :: putI f d fs := rfl
      have ev : putF f v ((g, x) :: vs) = if g = f then (g, v) :: vs else (g, x) :: putF f v vs := rfl
      rw [ef, ev]
      by_cases z : g = f
      · rw [if_pos z, if_pos z]
        exact ⟨by rw [List.map_cons, List.map_cons, List.map_cons, e2], .cons hv h2⟩
      · rw [if_neg z, if_neg z]
        exact ⟨by rw [List.map_cons, List.map_cons, List.map_cons, i1], .cons h1 i2⟩
end
/-! ### the mirrors -/
/-- o.f of an instance of c -/
def getI (c f : Str) (d : D) (S : Sto) : Option D := match d with
  | .ptr k => (match S[k]? with
    | some (.exc c' fs) => if c' = c then fldI f fs else none
    | _ => none)
  | _ => none
def rFldI (c f : Str) (a : RE) : RE := fun δ S => (a δ S).bind fun d S1 => .lift (getI c f d S1) S1
/-- the store behind o.f = v -/
def setI (c f : Str) (d v : D) (S : Sto) : Option Sto := match d with
  | .ptr k => (match S[k]? with
    | some (.exc c' fs) => if c' = c ∧ fs.length < 1000 then some (S.set k (.exc c (putI f v fs))) else none
    | _ => none)
  | _ => none
def outSet (δ : Sl) (o : Option Sto) : Out := match o with
  | some S => .nx δ S
  | none => .stuck
def sSetI (c f : Str) (a v : RE) : RS := fun δ S => (v δ S).out δ fun y S1 => (a δ S1).out δ fun d S2 => outSet δ (setI c f d y S2)
/-- o.m(..) -/
def isI (c m : Str) (d : D) (S : Sto) : Bool := match d with
  | .ptr k => (match S[k]? with
    | some (.exc c' fs) => decide (c' = c) && (fldI m fs).isNone
    | _ => false)
  | _ => false
def rMethI (c m : Str) (mir : Mir) (a : RE) (rs : RA) : RE := fun δ S => (a δ S).bind fun d S1 => if isI c m d S1 then (rs δ S1).bind fun ds S2 => mir (d :: ds) S2 else .stuck
/-- C(..) -/
def newI (c : Str) (mir : Mir) (ds : List D) (S : Sto) : Res D := (mir (.ptr S.length :: ds) (S ++ [.exc c []])).bind fun d S1 => match d with
  | .non => .ok (.ptr S.length) S1
  | _ => .stuck
def rMakeI (c : Str) (mir : Mir) (rs : RA) : RE := fun δ S => (rs δ S).bind (newI c mir)
/-! ### what the head tells of a class -/
structure ClF (K : Fg) (c f : Str) : Prop where
  cls : Cls K (He.ga K c)
  na : NoAttr K (He.ga K c) f
/-- the text of a method -/
structure Md (K : Fg) (c m qual : Str) (st : Stmt) (ps : List Str) : Prop where
  cls : Cls K (He.ga K c)
  meth : Meth K (He.ga K c) m (He.ma K (He.ga K c) m)
  ex : ∃ (fd : FuncData), Fun K m qual st (He.ma K (He.ga K c) m) fd ∧ Binds K fd ps []
/-- a method keeps to its mirror -/
structure Mt (P : Program) (w : World) (K : Fg) (mg : Str → Option Value) (base : Heap) (c m : Str) (n k : Nat) (mir : Mir) : Prop where
  cls : Cls K (He.ga K c)
  meth : Meth K (He.ga K c) m (He.ma K (He.ga K c) m)
  ex : ∃ (fd : FuncData) (ps : List Str), Binds K fd ps [] ∧ FnG P w K mg base k (He.ma K (He.ga K c) m) fd ps (spD w K mg n mir)
theorem mt_mk {P : Program} {w : World} {K : Fg} {mg : Str → Option Value} {base : Heap} {c m qual : Str} {st : Stmt} {N ps : List Str} {k : Nat} {r : RS} (Fu : Md K c m qual st ps) (Sc : FnScope N ps (defScope st))
    (hbody : ∀ (f : Addr) (cdv : Value) (A : Around) (outer : List Env) (s : Shared) (H : Hp) (E : XK), Env1 (cxOf (L2.CX P w) P w K mg base N qual (defScope st) f cdv A outer s H E) k → Takes (cxOf (L2.CX P w) P w K mg base N qual (defScope st) f cdv A outer s H E) (fun cls d _ H => E cls d H) →
      PSds (cxOf (L2.CX P w) P w K mg base N qual (defScope st) f cdv A outer s H E) (fun cls d _ H => E cls d H) (defBody st) r) : Mt P w K mg base c m ps.length (k + 1) (mDef N.length r) := by
  obtain ⟨fd, h1, h3⟩ := Fu.ex
  exact ⟨Fu.cls, Fu.meth, fd, ps, h3, fn_okD h1 Sc fun cdv A outer s H E hr hG => hbody _ cdv A outer s H E ⟨hr, hG, passes_of rfl⟩ (takes_of rfl rfl rfl rfl)⟩
section
variable {X : Cx} {W : WX} {a b e o value : Expr} {es : List Expr} {ra ro rv : RE} {rs : RA} {pos pos' p apos tpos : Pos} {c f m : Str} {wd : World} {K : Fg} {mg : Str → Option Value} {α : List Addr} {F H : Hp} {S : Sto}
theorem getI_ok {x : V} {d z : D} (r : Rel wd K mg α F H S) (v : DV wd K mg F α x d) (h : getI c f d S = some z) : ∃ ad dx vs y, x = .ref ad ∧ H ad = some (.ins (He.ga K c) dx vs) ∧ vs.lookup f = some y ∧ DV wd K mg F α y z := by
  unfold getI at h
  split at h
  · rename_i k
    split at h
    · rename_i c' fs e1
      split at h
      · rename_i ec
        subst ec
        cases v with
        | @ptr _ ad ea =>
          obtain ⟨⟨dx, vs, o1, o2, o3⟩, _⟩ := r.own _ _ _ ea e1
          obtain ⟨y, l1, l2⟩ := (fldI_look o2 o3).1 _ h
          exact ⟨ad, dx, vs, y, rfl, o1, l1, l2⟩
      · cases h
    · cases h
  · cases h
theorem setI_ok {x y : V} {d z : D} {S' : Sto} (r : Rel wd K mg α F H S) (v : DV wd K mg F α x d) (hy : DV wd K mg F α y z) (h : setI c f d z S = some S') : ∃ ad dx vs, x = .ref ad ∧ H ad = some (.ins (He.ga K c) dx vs) ∧ vs.length < 1000 ∧
    Rel wd K mg (α ++ []) F (upd H ad (.ins (He.ga K c) dx (putF f y vs))) S' ∧ Stp α F H [] F (upd H ad (.ins (He.ga K c) dx (putF f y vs))) := by
  unfold setI at h
  split at h
  · rename_i k
    split at h
    · rename_i c' fs e1
      split at h
      · rename_i ec
        obtain ⟨ec, hl⟩ := ec
        subst ec
        cases h
        cases v with
        | @ptr _ ad ea =>
          obtain ⟨⟨dx, vs, o1, o2, o3⟩, _⟩ := r.own _ _ _ ea e1
          have p1 := putI_ok (f := f) hy o2 o3
          obtain ⟨a1, a2⟩ := r.setO (o := .ins (He.ga K c') dx (putF f y vs)) (d := .exc c' (putI f z fs)) ea e1 rfl ⟨dx, _, upd_same, p1.1, p1.2⟩
          refine ⟨ad, dx, vs, rfl, o1, ?_, a1, a2⟩
          have : fs.length = vs.length := by have := congrArg List.length o2; simpa using this
          omega
      · cases h
    · cases h
  · cases h
theorem pd_fldI (cf : ClF X.K c f) (ha : PD X W a ra) (hb : attributeBase a f X.env (eval a X.env) = eval a X.env := by rfl) : PD X W (.Attribute a f pos) (rFldI c f ra) := by
  obtain ⟨ta, pa, sa⟩ := ha.ex
  refine ⟨_, pe_fld pa hb, fun α F σ H δ S Q hr hs h => ?_⟩
  refine sa α F σ H δ S _ hr hs (wp.bind h fun d S1 _ x H1 β F1 r1 s1 v1 h1 => ?_)
  obtain ⟨z, e1, h2⟩ := wp.lift h1
  obtain ⟨ad, dx, vs, y, ex, o1, l1, l2⟩ := getI_ok r1 v1 e1
  exact ⟨ad, _, dx, vs, y, ex, o1, cf.cls, cf.na, l1, h2.now r1 l2⟩
theorem psd_setI (cf : ClF X.K c f) (ho : PD X W o ro) (hv : PD X W value rv) (hs : swapsWith value (some (.Attribute o f pos')) pos.line X.env = pure false := by rfl) : PSd X W (.Assign [.Attribute o f pos'] value pos) (sSetI c f ro rv) := by
  obtain ⟨to, po, so⟩ := ho.ex
  obtain ⟨tv, pv', sv⟩ := hv.ex
  refine ⟨_, ps_fld po pv' hs, fun α F σ H δ S E hr hs h => ?_⟩
  refine sv α F σ H δ S _ hr hs (wpS.out h hs fun z S1 _ v H1 β F1 r1 q1 v1 h1 => ?_)
  have hs1 := hs.mono (β := β) q1.sub
  refine so (α ++ β) F1 σ H1 δ S1 _ r1 hs1 (wpS.out h1 hs1 fun x S2 _ xv H2 γ F2 r2 q2 v2 h2 => ?_)
  have hs2 := hs1.mono (β := γ) q2.sub
  cases e1 : setI c f x z S2 with
  | none => rw [e1] at h2; exact h2.elim
  | some S3 =>
    rw [e1] at h2
    obtain ⟨ad, dx, vs, ex, o1, hl, a1, a2⟩ := setI_ok r2 v2 (v1.mono (β := γ) q2.sub) e1
    exact ⟨ad, _, dx, vs, ex, o1, cf.cls, cf.na, hl, h2 _ _ _ _ a1 a2 (hs2.mono a2.sub)⟩
/-! ### methods -/
theorem pd_methI {n k : Nat} {mir : Mir} {pl : Sem Bool} (M : Mt X.prog X.w X.K X.mg X.base c m n k mir) (hr : Room k X.A) (hG : X.A.guards = some []) (tk : Takes X W) (ho : PD X W o ro) (ha : PDs X W (e :: es) rs) (hl : (e :: es).length + 1 = n := by rfl)
    (hst : starEach (e :: es) X.env = (false, eval e X.env) :: starEach es X.env := by rfl) (hpl : (backTo pos (starEach es X.env)).any (·.1) = false := by rfl)
    (ht : eval (.Call (.Attribute o m apos) (e :: es) [] pos) X.env = (do
      let ov ← eval o X.env
      standAt apos.atName
      let (f, first) ← holding [ov] (getMethod ov m pl)
      callWith pos f first (backTo pos (starEach (e :: es) X.env)) (backToKw pos (keywordEach [] X.env))) := by rfl) :
    PD X W (.Call (.Attribute o m apos) (e :: es) [] pos) (rMethI c m mir ro rs) := by
  obtain ⟨to, po, so⟩ := ho.ex
  obtain ⟨t, pt, st⟩ := ha.ex
  obtain ⟨fd, ps, h3, h4⟩ := M.ex
  refine ⟨fun σ H Q => to σ H fun x H1 => ∃ a dx fs, x = .ref a ∧ H1 a = some (.ins (He.ga X.K c) dx fs) ∧ fs.lookup m = none ∧ t σ H1 fun vs H2 => spD X.w X.K X.mg n mir (x :: vs) H2 Q (WE W σ), ⟨fun pins s σ H Q I h => ?_⟩, fun α F σ H δ S Q hr hs h => ?_⟩
  · refine PySem.W.methodCall_KW (pl := pl) (thn (po.run pins s σ H _ I h) fun u s1 ⟨x, H1, I1, rx, a, dx, fs, ex, ea, l, q⟩ => ?_) ht
    subst ex
    obtain rfl : u = Value.ref a := rx
    refine getmeth_ok I1 ea M.cls M.meth l ?_
    refine PySem.W.callWith_K (first := [.ref a]) (h₀ := X.base) I1.ok.mod.kin M.meth.kp (thn (pt.run pos pins s1 σ H1 _ I1 q) fun us s2 ⟨vs, H2, I2, r, q2⟩ => ⟨I2.kIn, ?_⟩) hst hpl
    exact h4.call (us := .ref a :: us) (vs := .ref a :: vs) hr hG h3 tk I2 (.cons rfl r) q2
  · refine so α F σ H δ S _ hr hs (wp.bind h fun d S1 _ x H1 β F1 r1 s1 v1 h1 => ?_)
    split at h1
    · rename_i hi
      unfold isI at hi
      split at hi
      · rename_i kk _
        split at hi
        · rename_i c' fs e1
          rw [Bool.and_eq_true] at hi
          have ec : c' = c := of_decide_eq_true hi.1
          subst ec
          have hn : fldI m fs = none := Option.isNone_iff_eq_none.mp hi.2
          have v1' := v1
          cases v1 with
          | @ptr _ ad ea =>
            obtain ⟨⟨dx, vs, o1, o2, o3⟩, _⟩ := r1.own _ _ _ ea e1
            refine ⟨ad, dx, vs, rfl, o1, (fldI_look o2 o3).2 hn, ?_⟩
            refine st (α ++ β) F1 σ H1 δ S1 _ r1 (hs.mono s1.sub) (wp.bind h1 fun ds S2 e2 xs H2 γ F2 r2 s2 v2 h2 => ?_)
            refine ⟨by rw [List.length_cons, v2.length, ha.len _ _ _ _ e2]; exact hl, α ++ β ++ γ, F2, S2, .ptr kk :: ds, r2, .cons (v1'.mono s2.sub) v2, h2⟩
        · cases hi
      · cases hi
    · exact h1.elim
/-! ### a class is made -/
theorem fnG_make {k : Nat} {C g : Addr} {fd : FuncData} {ps : List Str} {sp : Sp} {pins : List (Addr × Obj)} {σ : L2.St} {H : Hp} {s : Shared} {Q : VK} {us : List Value} {vs : List V} (Mk' : Mk X.K C g) (F : FnG X.prog X.w X.K X.mg X.base k g fd ps sp) (hr : Room (k + 1) X.A) (hG : X.A.guards = some []) (hb : Binds X.K fd ps []) (tk : Takes X W)
    (I : Inv X pins σ H s) (r : Vals vs us) (h : ∀ x dx, H x = none → H dx = none → dx ≠ x → sp (.ref x :: vs) (upd (upd H dx (.own x)) x (.ins C dx [])) (fun v H2 => v = .non ∧ Q (.ref x) H2) (WE W σ)) :
    wpAny (model X.prog X.w) X.A (call (.ref C) us) (EP X pins σ Q) X.xe s := by
  have hq := h (s.heap.objs.size + 1) s.heap.objs.size (I.hok.fresh (Nat.le_succ _)) (I.hok.fresh (Nat.le_refl _)) (Nat.ne_of_lt (Nat.lt_succ_self _))
  have I2 := Inv.made (C := C) I
  have r2 : Vals (V.ref (s.heap.objs.size + 1) :: vs) (Value.ref (s.heap.objs.size + 1) :: us) := .cons rfl r
  have hl : (Value.ref (s.heap.objs.size + 1) :: us).length = ps.length := by
    have e := r2.length
    rw [F.len _ _ _ _ hq] at e
    exact e.symm
  have b : BindsTo { s with heap := (s.heap.push PySem.W.emptyDict).push (PySem.W.instObj C s.heap.objs.size) } fd ⟨Value.ref (s.heap.objs.size + 1) :: us, []⟩ (ps.zip (Value.ref (s.heap.objs.size + 1) :: us)) := by simpa only [List.append_nil] using hb _ (Value.ref (s.heap.objs.size + 1) :: us) I2.kIn (by simpa only [List.append_nil] using hl)
  have hG2 : (X.A.under (.builtin "type.__call__" ⟨.ref C :: us, []⟩)).guards = some [] := by
    first | exact hG | simpa [Around.under, Code.guards, pushGuards] using hG
  refine wpAny_call (make_map (f := g) I.kIn Mk'.makes Mk'.init (beq_iff_eq.mp Mk'.fn) (codeAny_mono (F.run _ X.stack _ _ ⟨Value.ref (s.heap.objs.size + 1) :: us, []⟩ (Value.ref (s.heap.objs.size + 1) :: us) _ _ _ (hr.make C us []) hG2
    (I2.env0.make C us []) b r2 hq) fun r s' hq' => ?_))
  cases r with
  | error e => exact passAt tk σ pins _ _ e s' I2 hq'
  | ok fl =>
    cases fl with
    | ret u =>
      obtain ⟨v, H', I3, rv, ev, q3⟩ := I2.after hq'
      subst ev
      exact ⟨rv, ⟨V.ref (s.heap.objs.size + 1), H', I3, rfl, q3⟩⟩
    | next => exact False.elim hq'
    | brk => exact False.elim hq'
    | cont => exact False.elim hq'
theorem new_ins {α : List Addr} {F H : Hp} {S : Sto} {C x dx : Addr} (hr : Rel wd K mg α F H S) (hc : C = He.ga K c) (hx : H x = none) (hd : H dx = none) (ne : dx ≠ x) :
    Rel wd K mg (α ++ [x]) F (upd (upd H dx (.own x)) x (.ins C dx [])) (S ++ [.exc c []]) ∧ Stp α F H [x] F (upd (upd H dx (.own x)) x (.ins C dx [])) ∧ (α ++ [x])[S.length]? = some x := by
  have nd := hr.notin hd
  have nx := hr.notin hx
  have fd := hr.notF hd
  have fx := hr.notF hx
  have r1 : Rel wd K mg α F (upd H dx (.own x)) S := hr.other nd fd
  have r2 : Rel wd K mg α F (upd (upd H dx (.own x)) x (.ins C dx [])) S := r1.other nx fx
  have st : Stp α F H [] F (upd (upd H dx (.own x)) x (.ins C dx [])) := (Stp.refl.other hd).other hx
  refine ⟨r2.adopt nx fx ⟨dx, [], by rw [upd_same, hc], rfl, .nil⟩ rfl, ⟨fun b hb => ?_, st.sub, st.frame, st.live, st.fnew⟩, ?_⟩
  · have : b = x := by simpa using hb
    rw [this]; exact hx
  · rw [← hr.len, List.getElem?_append_right (Nat.le_refl _), Nat.sub_self] <;> rfl
/-- C(..): to be made as M (the method's facts) tells -/
structure MkF (K : Fg) (mg : Str → Option Value) (c : Str) : Prop where
  mkr : Mk K (He.ga K c) (He.ma K (He.ga K c) "__init__")
  glo : mg c = some (.ref (He.ga K c))
theorem newI_ok {n : Nat} {mir : Mir} {σ : L2.St} {H : Hp} {Q : VK} {vs : List V} {ds : List D} {α : List Addr} {F : Hp} {S : Sto} (h : wp X.w X.K X.mg α F H (relD X.w X.K X.mg) (newI c mir ds S) Q (WE W σ)) (hr : Rel X.w X.K X.mg α F H S) (hv : DVs X.w X.K X.mg F α vs ds) (hl : ds.length + 1 = n)
    (x dx : Addr) (hx : H x = none) (hd : H dx = none) (ne : dx ≠ x) : spD X.w X.K X.mg n mir (.ref x :: vs) (upd (upd H dx (.own x)) x (.ins (He.ga X.K c) dx [])) (fun v H2 => v = .non ∧ Q (.ref x) H2) (WE W σ) := by
  obtain ⟨n1, n2, n3⟩ := new_ins (c := c) hr rfl hx hd ne
  refine ⟨by rw [List.length_cons, hv.length]; exact hl, α ++ [x], F, _, .ptr S.length :: ds, n1, .cons (.ptr n3) (hv.mono (Sub.refl F)), ?_⟩
  unfold newI at h
  have h' := wp.step n2 h
  refine wp.bind h' fun d S1 _ v H1 β F1 r1 s1 v1 h1 => ?_
  cases d with
  | non =>
    cases v1
    refine ⟨rfl, h1.now r1 ?_⟩
    refine .ptr ?_
    rw [List.getElem?_append_left (by rw [List.length_append, hr.len]; simp)]
    exact n3
  | _ => exact h1.elim
theorem pd_makeI {n k : Nat} {mir : Mir} (M : Mt X.prog X.w X.K X.mg X.base c "__init__" n k mir) (MK : MkF X.K X.mg c) (hr : Room (k + 1) X.A) (hG : X.A.guards = some []) (tk : Takes X W) (ha : PDs X W (e :: es) rs) (hl : (e :: es).length + 1 = n := by rfl) (hg : Gl X c := by rfl) (hdb : (c == ("__debug__" : Str)) = false := by decide)
    (he : starEach (e :: es) X.env = (false, eval e X.env) :: starEach es X.env := by rfl) (hpl : (backTo pos (starEach es X.env)).any (·.1) = false := by rfl) : PD X W (.Call (.Name c p) (e :: es) [] pos) (rMakeI c mir rs) := by
  obtain ⟨t, pt, st⟩ := ha.ex
  obtain ⟨fd, ps, h3, h4⟩ := M.ex
  refine ⟨fun σ H Q => t σ H fun vs H1 => ∀ x dx, H1 x = none → H1 dx = none → dx ≠ x → spD X.w X.K X.mg n mir (.ref x :: vs) (upd (upd H1 dx (.own x)) x (.ins (He.ga X.K c) dx [])) (fun v H2 => v = .non ∧ Q (.ref x) H2) (WE W σ), ⟨fun pins s σ H Q I h => wpAny_Call_Name_kw (ld_glob I hg MK.glo ?_ hdb)⟩, fun α F σ H δ S Q hr hs h => ?_⟩
  · refine PySem.W.callWith_K (h₀ := X.base) I.ok.mod.kin MK.mkr.kp (thn (pt.run pos pins s σ H _ I h) fun us s1 ⟨vs, H1, I1, r, q⟩ => ⟨I1.kIn, ?_⟩) he hpl
    exact fnG_make MK.mkr h4 hr hG h3 tk I1 r q
  · refine st α F σ H δ S _ hr hs (wp.bind h fun ds S1 e1 xs H1 β F1 r1 q1 v1 h1 => ?_)
    exact newI_ok h1 r1 v1 (by rw [ha.len _ _ _ _ e1]; exact hl)
end
end DL
set_option Elab.async false
set_option linter.all false
set_option maxRecDepth 100000
set_option maxHeartbeats 4000000
set_option autoImplicit false
/-! Data layer: a == b, a != b of tuples that hold dicts, where they are alike; sDrop: what was made since is let go. -/
namespace DL
open PySem PySem.Spec PyProof.Rows L2
inductive EqV (K : PySem.W.Frag) (H : Hp) : V → V → Prop
  | dat {v u : V} {x y : PyData} : Dp K H v x → Dp K H u y → SeqAt.shaped x = true → SeqAt.shaped y = true → PyData.eqv x y = true → EqV K H v u
  | dct {a b : Addr} {ws wm : List (Key × V)} : a ≠ b → Rd H a (.dK ws) → Rd H b (.dK wm) → HitsE K H wm ws true → ws.length = wm.length → EqV K H (.ref a) (.ref b)
def EqIn (P : Program) (w : World) (A : Around) (s : Shared) (y x : Value) : Prop := ∀ (E : Value → Shared → Prop) (Q : Bool → Shared → Prop), Q true s → wpAny (model P w) A (eqBool y x) Q E s
theorem eqIn_refs {P : Program} {w : World} {A : Around} {s : Shared} {l b : Addr} (hne : l ≠ b) (h : ∀ (E : Value → Shared → Prop) (Q : Value → Shared → Prop), Q (.bool true) s → wpAny (model P w) A (richCompare .Eq (.ref l) (.ref b)) Q E s) : EqIn P w A s (.ref l) (.ref b) := fun E Q hq => by
  unfold eqBool
  refine wpAny_holding (wpAny_ite_split (fun hab => absurd (by have := eq_of_beq hab; injection this) hne) (fun _ => ?_))
  exact wpAny_bind (h E _ (wpAny_truthy_bool hq))
theorem tuple_ne_in {P : Program} {w : World} {A : Around} {E : Value → Shared → Prop} {Q : Value → Shared → Prop} {s : Shared} {l b : Addr} {items items2 : Array Value} (hl : s.heap.IsTuple l items) (hb : s.heap.IsTuple b items2) (hn : items.size = items2.size) (hu : A.units < cLine)
    (he : ∀ j (h1 : j < items.size) (h2 : j < items2.size), EqIn P w A.in1 s items[j] items2[j]) (h : Q (.bool false) s) : wpAny (model P w) A (compareOp .NotEq (.ref l) (.ref b)) Q E s := by
  have hl0 := hl
  have hb0 := hb
  obtain ⟨⟨cls, dd, data, sl⟩, ho, hc, n, hd⟩ := hl
  obtain ⟨⟨cls2, dd2, data2, sl2⟩, ho2, hc2, n2, hd2⟩ := hb
  simp only at hc hd hc2 hd2
  subst hc hd hc2 hd2
  refine wpAny_richCompare_same_room (op := .NotEq) (T := "tuple") ⟨_, ho, rfl⟩ ⟨_, ho2, rfl⟩ PySem.F.slot_tuple_ne (wpAny_call_entry PySem.F.slot_tuple_ne ⟨_, ho, rfl⟩ PySem.F.entry_tuple_ne ?_ (PySem.F.args_tuple_ne_2 _ _)) hu
  have f2 := AutoSeq1.sub_tuple_tuple
  obtain ⟨hp, g, d, tk, os⟩ := s
  have hZ : (items.toList.zip items2.toList).length = items.size := by simp [hn]
  wp_walk using AutoSeq1.wpAny_loadPart' ho, AutoSeq1.wpAny_loadPart' ho2, wpAny_forIn_list _ (fun rest b s' => b.1 = none ∧ s' = ⟨hp, g, d, tk, os⟩ ∧ ∃ i, rest = (items.toList.zip items2.toList).drop i) _
  case turn =>
    rintro ⟨y, x⟩ rest b s' ⟨hb', rfl, i, hz⟩
    have hlt : i < (items.toList.zip items2.toList).length := by
      rcases Nat.lt_or_ge i (items.toList.zip items2.toList).length with h' | h'
      · exact h'
      · rw [List.drop_of_length_le h'] at hz; cases hz
    have h1 : i < items.size := hZ ▸ hlt
    have h2 : i < items2.size := hn ▸ h1
    rw [List.drop_eq_getElem_cons hlt] at hz
    injection hz with hyx hrest
    have hy : y = items[i] := by have := congrArg Prod.fst hyx; simpa using this
    have hx : x = items2[i] := by have := congrArg Prod.snd hyx; simpa using this
    subst hy hx
    refine wpAny_bind (he i h1 h2 _ _ ?_)
    wp_walk
    exact ⟨rfl, rfl, i + 1, hrest⟩
  case fin =>
    rintro ⟨b1, b2⟩ s' ⟨hb', rfl, i, hz⟩
    simp only at hb'
    subst hb'
    wp_walk
    exact ⟨_, rfl, (fun x => nomatch x), by simpa [Builtin.Tuple.tupleCompareSizes, bne, hn] using h⟩
  case h =>
    exact ⟨rfl, rfl, 0, rfl⟩
theorem EqV.at_ {X : Cx} {pins : List (Addr × Obj)} {σ : L2.St} {H : Hp} {s : Shared} (I : Inv X pins σ H s) (hu : X.A.units + 80 < cLine) {v u : V} {p q : Value} (h : EqV X.K H v u) (rp : RelV v p) (rq : RelV u q) : EqIn X.prog X.w X.A.in1 s p q := by
  cases h with
  | @dat _ _ x y hx hy sx sy e =>
    obtain ⟨as, r1⟩ := Dp.reads I x v p hx rp
    obtain ⟨bs, r2⟩ := Dp.reads I y u q hy rq
    have g := SeqAt.eqAt_reads x y X.A.in1 s p q as bs r1 r2 (SeqAt.canLay_of_shaped sx) (SeqAt.canLay_of_shaped sy) (SeqAt.room_of_shaped sx (by show X.A.units + 1 + 64 < cLine; omega))
    rw [e] at g
    exact fun E Q hq => g X.prog X.w E Q hq
  | @dct a b ws wm ne ha hb hh hl =>
    obtain rfl : p = Value.ref a := rp
    obtain rfl : q = Value.ref b := rq
    obtain ⟨z, hd, vs, rel, dd⟩ := dk_rd I.hok ha
    obtain ⟨z2, hd2, vs2, rel2, dd2⟩ := dk_rd I.hok hb
    refine eqIn_refs ne fun E Q hq => ?_
    have hits := hits_ofE I (A := X.A.in1.in1) (by show X.A.units + 1 + 1 + 62 < cLine; omega) rel2 hh rel
    refine PySem.W.keq_eq (knd := mixKind X.prog X.w) hd hd2 dd dd2 (by show X.A.units + 1 < cLine; omega) (fun _ => hits) ?_
    have el : (vs.length == vs2.length) = true := by rw [← rel.length, ← rel2.length, hl]; exact beq_self_eq_true _
    rw [el]
    exact hq
inductive EqVs (K : PySem.W.Frag) (H : Hp) : List V → List V → Prop
  | nil : EqVs K H [] []
  | cons {v u : V} {vs us : List V} : EqV K H v u → EqVs K H vs us → EqVs K H (v :: vs) (u :: us)
theorem EqVs.length {K : PySem.W.Frag} {H : Hp} {vs us : List V} (h : EqVs K H vs us) : vs.length = us.length := by
  induction h with
  | nil => rfl
  | cons _ _ ih => rw [List.length_cons, List.length_cons, ih]
theorem EqVs.get {K : PySem.W.Frag} {H : Hp} {vs us : List V} (h : EqVs K H vs us) : ∀ (j : Nat) {v u : V}, vs[j]? = some v → us[j]? = some u → EqV K H v u := by
  induction h with
  | nil => intro j v u e; simp at e
  | cons h1 _ ih =>
    intro j v u e f
    cases j with
    | zero => simp at e f; subst e; subst f; exact h1
    | succ j => exact ih j (by simpa using e) (by simpa using f)
theorem vals_get {vs : List V} {us : List Value} (h : Vals vs us) : ∀ (j : Nat) {u : Value}, us[j]? = some u → ∃ v, vs[j]? = some v ∧ RelV v u := by
  induction h with
  | nil => intro j u e; simp at e
  | @cons v p vs ps h1 _ ih =>
    intro j u e
    cases j with
    | zero => simp at e; subst e; exact ⟨v, rfl, h1⟩
    | succ j => obtain ⟨w, e1, e2⟩ := ih j (by simpa using e); exact ⟨w, by simpa using e1, e2⟩
/-- two things that are alike: data, or dicts that differ as objects -/
def eqIt (S : Sto) (d e : D) : Bool := match d, e with
  | .ptr k, .ptr j => k != j && (match deref S (.ptr k), deref S (.ptr j) with
    | .dct kvs, .dct mvs => (match eqPartE S mvs kvs with
      | some r => r && kvs.length == mvs.length
      | none => false)
    | _, _ => false)
  | _, _ => (match toPy S d, toPy S e with
    | some x, some y => SeqAt.shaped x && SeqAt.shaped y && PyData.eqv x y
    | _, _ => false)
def eqIts (S : Sto) : List D → List D → Bool
  | [], [] => true
  | d :: ds, e :: es => eqIt S d e && eqIts S ds es
  | _, _ => false
def gEqTD (r : Bool) : Sto → D → D → Option D := fun S a b => match deref S a, deref S b with
  | .tup xs, .tup ys => if eqIts S xs ys then some (.bl r) else none
  | _, _ => none
section
variable {X : Cx} {W : WX} {wd : World} {K : Fg} {mg : Str → Option Value} {F H : Hp} {α : List Addr} {S : Sto}
theorem eqIt_ok (hr : Rel wd K mg α F H S) {v u : V} {d e : D} (hv : DV wd K mg F α v d) (hu : DV wd K mg F α u e) (h : eqIt S d e = true) : EqV K H v u := by
  have dat : (match toPy S d, toPy S e with
    | some x, some y => SeqAt.shaped x && SeqAt.shaped y && PyData.eqv x y
    | _, _ => false) = true → EqV K H v u := fun h => by
    split at h
    · rename_i x y ex ey
      rw [Bool.and_eq_true, Bool.and_eq_true] at h
      exact .dat (DV.dp hv ex hr.sub) (DV.dp hu ey hr.sub) h.1.1 h.1.2 h.2
    · cases h
  unfold eqIt at h
  split at h
  · rename_i k j
    rw [Bool.and_eq_true] at h
    obtain ⟨hk, h⟩ := h
    split at h
    · rename_i kvs mvs e1 e2
      split at h
      · rename_i r e3
        rw [Bool.and_eq_true] at h
        obtain ⟨hr1, hl⟩ := h
        subst hr1
        obtain ⟨a, ws, ea, p1, p2⟩ := hr.viewD hv e1
        obtain ⟨b, wm, eb, m1, m2⟩ := hr.viewD hu e2
        subst ea
        subst eb
        refine .dct (fun z => ?_) p1 m1 (hitsE_of hr.sub m2 p2 e3) ?_
        · subst z
          cases hv with
          | ptr q1 =>
            cases hu with
            | ptr q2 =>
              have : k = j := (List.getElem_inj hr.nd).mp ((List.getElem?_eq_some_iff.mp q1).2.trans (List.getElem?_eq_some_iff.mp q2).2.symm)
              subst this
              simp at hk
        · rw [p2.length, m2.length]; simpa using hl
      · cases h
    · cases h
  · exact dat h
theorem eqIts_ok (hr : Rel wd K mg α F H S) : ∀ {vs us : List V} {ds es : List D}, DVs wd K mg F α vs ds → DVs wd K mg F α us es → eqIts S ds es = true → EqVs K H vs us
  | _, _, [], [], hv, hu, _ => by cases hv; cases hu; exact .nil
  | _, _, [], _ :: _, _, _, h => by cases h
  | _, _, _ :: _, [], _, _, h => by cases h
  | _, _, d :: ds, e :: es, hv, hu, h => by
    unfold eqIts at h
    rw [Bool.and_eq_true] at h
    cases hv with
    | cons a1 a2 =>
      cases hu with
      | cons b1 b2 => exact .cons (eqIt_ok hr a1 b1 h.1) (eqIts_ok hr a2 b2 h.2)
open PySem PySem.Spec L2 in
theorem istup_of {X : Cx} {pins : List (Addr × Obj)} {σ : L2.St} {H : Hp} {s : Shared} (I : Inv X pins σ H s) {a : Addr} {xs : List V} (h : SqT X.K H a xs) : ∃ its : List Value, Vals xs its ∧ s.heap.IsTuple a its.toArray := by
  obtain ⟨its, o, n, r, e1, e2, e3⟩ := L2.sqT_at I.hok I.kIn h
  exact ⟨its, r, o, e1, e2, n, e3⟩
def rEqT (K : PySem.W.Frag) (r : Bool) : R2 := fun x y H Q => ∃ a b xs ys, x = .ref a ∧ y = .ref b ∧ SqT K H a xs ∧ SqT K H b ys ∧ EqVs K H xs ys ∧ Q (.bl r) H
theorem okg_eqT {r : Bool} : OkG X (rEqT X.K r) (gEqTD r) := by
  intro α F H S x y d e z Q hr hx hy hz q
  unfold gEqTD at hz
  split at hz
  · rename_i xs ys e1 e2
    split at hz
    · rename_i hc
      cases hz
      obtain ⟨a, vs, rfl, p1, p2⟩ := hr.viewT hx e1
      obtain ⟨b, us, rfl, m1, m2⟩ := hr.viewT hy e2
      have an : α ++ [] = α := List.append_nil α
      exact ⟨a, b, vs, us, rfl, rfl, p1, m1, eqIts_ok hr p2 m2 hc, q _ H [] F (by rw [an]; exact hr) Stp.refl (.bl _)⟩
    · cases hz
  · cases hz
theorem at_all {X : Cx} {pins : List (Addr × Obj)} {σ : L2.St} {H : Hp} {s : Shared} (I : Inv X pins σ H s) (hu : X.A.units + 80 < cLine) {xs ys : List V} {vs us : List Value} (h : EqVs X.K H xs ys) (r1 : Vals xs vs) (r2 : Vals ys us) :
    ∀ j (h1 : j < vs.toArray.size) (h2 : j < us.toArray.size), EqIn X.prog X.w X.A.in1 s vs.toArray[j] us.toArray[j] := fun j h1 h2 => by
  obtain ⟨v, e1, g1⟩ := vals_get r1 j (u := vs.toArray[j]) (by simp at h1 ⊢)
  obtain ⟨u, e2, g2⟩ := vals_get r2 j (u := us.toArray[j]) (by simp at h2 ⊢)
  exact (h.get j e1 e2).at_ I hu g1 g2
theorem g_neTD (hu : X.A.units + 80 < cLine) : OpG X (compareOp .NotEq) (gEqTD false) := by
  refine ⟨rEqT X.K false, ?_, okg_eqT⟩
  intro pins s σ H x y v u Q I rx ry h
  obtain ⟨a, b, xs, ys, rfl, rfl, ha, hb, hh, q⟩ := h
  obtain rfl : v = Value.ref a := rx
  obtain rfl : u = Value.ref b := ry
  obtain ⟨vs, r1, t1⟩ := istup_of I ha
  obtain ⟨us, r2, t2⟩ := istup_of I hb
  have hn : vs.length = us.length := by rw [← r1.length, ← r2.length, hh.length]
  exact tuple_ne_in t1 t2 (by simpa using hn) (by omega) (at_all I hu hh r1 r2) ⟨.bl false, H, I, rfl, q⟩
/-! ### what a turn made is let go at its end -/
def dropSl (n : Nat) (δ : Sl) : Sl := δ.map fun o => match o with
  | some d => if D.closed n d then some d else none
  | none => none
def sLocal (b : RS) : RS := fun δ S => match b δ S with
  | .nx δ1 S1 => if closedL S.length (S1.take S.length) = true then .nx (dropSl S.length δ1) (S1.take S.length) else .stuck
  | .ct δ1 S1 => if closedL S.length (S1.take S.length) = true then .ct (dropSl S.length δ1) (S1.take S.length) else .stuck
  | .bk δ1 S1 => if closedL S.length (S1.take S.length) = true then .bk (dropSl S.length δ1) (S1.take S.length) else .stuck
  | o => o
theorem Slots.drop {α β : List Addr} {F : Hp} {σ : L2.St} {δ : Sl} (h : Slots wd K mg F (α ++ β) σ δ) : Slots wd K mg F α σ (dropSl α.length δ) := by
  refine ⟨by unfold dropSl; rw [List.length_map]; exact h.1, fun i d e => ?_⟩
  unfold dropSl at e
  rw [List.getElem?_map] at e
  cases q : δ[i]? with
  | none => rw [q] at e; cases e
  | some o =>
    rw [q] at e
    cases o with
    | none => cases e
    | some d' =>
      have e : some (if D.closed α.length d' then some d' else none) = some (some d) := e
      by_cases hc : D.closed α.length d' = true
      · rw [if_pos hc] at e
        cases e
        obtain ⟨v, e1, e2⟩ := h.2 i _ q
        exact ⟨v, e1, DV.shrink hc e2⟩
      · rw [if_neg hc] at e
        cases e
theorem psds_local {sts : List Stmt} {r : RS} (h : PSds X W sts r) : PSds X W sts (sLocal r) := by
  obtain ⟨t, pt, st⟩ := h.ex
  refine ⟨t, pt, fun α F σ H δ S E hr hs h => st α F σ H δ S E hr hs ?_⟩
  have hl : α.length = S.length := hr.len
  have an : α ++ [] = α := List.append_nil α
  unfold sLocal at h
  rw [← hl] at h
  cases q : r δ S with
  | nx δ1 S1 =>
    rw [q] at h
    dsimp only at h
    split at h
    · rename_i hc
      intro σ' H' β F' r1 s1 v1
      exact h σ' H' [] F' (by rw [an]; exact Rel.trunc r1 hc) s1.drop (by rw [an]; exact v1.drop)
    · exact h.elim
  | ct δ1 S1 =>
    rw [q] at h
    dsimp only at h
    split at h
    · rename_i hc
      intro σ' H' β F' r1 s1 v1
      exact h σ' H' [] F' (by rw [an]; exact Rel.trunc r1 hc) s1.drop (by rw [an]; exact v1.drop)
    · exact h.elim
  | bk δ1 S1 =>
    rw [q] at h
    dsimp only at h
    split at h
    · rename_i hc
      intro σ' H' β F' r1 s1 v1
      exact h σ' H' [] F' (by rw [an]; exact Rel.trunc r1 hc) s1.drop (by rw [an]; exact v1.drop)
    · exact h.elim
  | rt d S1 => rw [q] at h; exact h
  | err c fs δ1 S1 => rw [q] at h; exact h
  | stuck => rw [q] at h; exact h
end
end DL
set_option Elab.async false
set_option linter.all false
set_option maxRecDepth 100000
set_option maxHeartbeats 2000000
set_option autoImplicit false
/-! isinstance of what was caught with a tuple of the program's classes. -/
namespace L2
open PySem PySem.Spec PyProof.Rows DL
end L2
namespace DL
open PySem PySem.Spec PyProof.Rows L2
end DL
set_option Elab.async false
set_option linter.all false
set_option maxRecDepth 100000
set_option maxHeartbeats 1000000
set_option autoImplicit false
/-! Calls during which everything stands; {None: v}; isinstance with dict of any dict; items of these. -/
namespace DL
open PySem PySem.Spec PyProof.Rows L2
/-! ### a call during which all stands -/
end DL
set_option Elab.async false
set_option linter.all false
set_option maxRecDepth 100000
set_option maxHeartbeats 1000000
set_option autoImplicit false
/-! {None: v}; isinstance with dict of any dict; the items of these. -/
namespace DL
open PySem PySem.Spec PyProof.Rows L2
/-! ### isinstance(x, dict) -/
def isDc (S : Sto) : D → Bool
  | .dc0 _ => true
  | .ptr k => (match S[k]? with
    | some (.dcn _) => true
    | _ => false)
  | _ => false
def gIsiD : Sto → List D → Option D := fun S ds => match gIsi S ds with
  | some z => some z
  | none => match ds with
    | [d, .ty "dict"] => if isDc S d then some (.bl true) else none
    | _ => none
def rIsD (w : World) : List V → Hp → VK → Prop := fun xs H Q => ∃ a, xs = [.ref a, .ty "dict"] ∧ ((∃ o v, H a = some (dz a o v)) ∨ ∃ ys, H a = some (dN w a ys)) ∧ Q (.bl true) H
theorem call_isD {X : Cx} : CallR X (.builtin "isinstance") (rIsD X.w) := by
  intro pins s σ H xs us Q I r h
  obtain ⟨a, rfl, hh, q⟩ := h
  obtain ⟨u1, u2, rfl, r1, r2⟩ := vals2 r
  cases (show u1 = Value.ref a from r1)
  cases (show u2 = Value.type "dict" from r2)
  have key : ∃ o, s.heap.get? a = some o ∧ o.cls = .type "dict" := by
    rcases hh with ⟨o, v, e⟩ | ⟨ys, e⟩
    · obtain ⟨⟨_, q2, q3, _⟩, _⟩ := (show ObjOk X.prog X.w H s.heap a (dz a o v) from I.hok a _ e)
      exact ⟨o, q2, q3.1⟩
    · obtain ⟨⟨_, _, _, vs, _, o, es, ep, q2, q3, _⟩, _⟩ := (show ObjOk X.prog X.w H s.heap a (dN X.w a ys) from I.hok a _ e)
      exact ⟨o, q2, q3.1⟩
  exact PySem.W.kia_one PySem.W.kitx_dict I.kIn key (kit_ty (a := "dict") (b := "dict") (by decide +kernel)) (fun z => nomatch z) fun tk => ⟨.bl true, H, I.tok tk, rfl, q⟩
theorem b_isiD {X : Cx} : BiG X (.builtin "isinstance") gIsiD := by
  obtain ⟨r0, c0, o0⟩ := b_isi (X := X)
  refine ⟨_, c0.or call_isD, fun α F H S xs ds z Q hr hv hz q => ?_⟩
  unfold gIsiD at hz
  split at hz
  · rename_i z' e
    cases hz
    exact .inl (o0 α F H S xs ds _ Q hr hv e q)
  · split at hz
    · rename_i d
      split at hz
      · rename_i hd
        cases hz
        cases hv with
        | cons h1 h2 =>
          cases h2 with
          | cons h2 h3 =>
            cases h3
            cases h2
            refine .inr ?_
            unfold isDc at hd
            split at hd
            · cases h1 with
              | dc0 g1 g2 => exact ⟨_, rfl, .inl ⟨_, _, hr.sub _ _ g1⟩, fin_now hr (.bl _) q⟩
            · rename_i k
              split at hd
              · rename_i kvs ek
                cases h1 with
                | @ptr _ a ea =>
                  obtain ⟨ys, g1, _⟩ := (hr.own k a _ ea ek).1
                  exact ⟨_, rfl, .inr ⟨_, g1⟩, fin_now hr (.bl _) q⟩
              · cases hd
            · cases hd
      · cases hz
    · cases hz
/-! ### d.items() -/
theorem frzZ {X : Cx} {pins : List (Addr × Obj)} {σ : L2.St} {H : Hp} {s : Shared} {d : Addr} {o : Obj} {v : V} (I : Inv X pins σ H s) (h : H d = some (dz d o v)) :
    (d == sysModules) = false ∧ s.heap.get? d = some o ∧ o.ExactDict ∧ ∃ (ep : Nat) (e : DictEntry), e.key = .none ∧ RelV v e.val ∧ o.data = .dict #[e] ep := (show ObjOk X.prog X.w H s.heap d (dz d o v) from I.hok d _ h).1
def ItiZ (d : Addr) (o : Obj) (v : V) : It :=
  ⟨fun i H => H d = some (dz d o v) ∧ i < 1, fun i H x H' => ∃ T, x = .ref T ∧ H T = none ∧ H' = upd H T (.tup [.non, v]), fun i H => H d = some (dz d o v) ∧ 1 ≤ i⟩
theorem turn_itemsZ {P : Program} {w : World} {K : Fg} {d : Addr} {o : Obj} {es : Array DictEntry} {ep : Nat} {v : V} {elts : List Expr} {kk : Nat} {tpos : Pos} (it : Addr) (hod : o.data = .dict es ep) :
    Turn P w K (.Tuple elts kk tpos) (ItiZ d o v) [it] it (fun i h => ∃ ok ov, IsItemIter h it d i 1 ep ok ov) where
  mem := by simp
  obj := fun i h st b hb => by
    have e : b = it := by simpa using hb
    subst e
    obtain ⟨ok, ov, e⟩ := st
    exact ⟨_, e, fun v z => nomatch z⟩
  keep := fun i h h' st k => let ⟨ok, ov, e⟩ := st; ⟨ok, ov, k it (by simp) _ e⟩
  item := by
    intro X hP hw hK hc i pins s σ H E I hf st hg
    subst hP hw hK
    obtain ⟨hd, hi⟩ := hg
    obtain ⟨hs, hgd, hx, ep', en, hk, rv, hdt⟩ := frzZ I hd
    obtain ⟨rfl, rfl⟩ := dict_ep hod hdt
    obtain ⟨ok, ov, he⟩ := st
    have hlt : it < s.heap.objs.size := Heap.lt_size he
    have hi0 : i = 0 := by omega
    subst hi0
    refine wpAny_pyNext_items_item_raw (es := #[en]) he ⟨o, hgd, hx, hdt⟩ (by simp) fun h' ho hT hz hk2 => ?_
    refine ⟨_, rfl, wpAny_letOwnedTupleGo_items (s := { s with heap := h' }) ho fun h'' he' sb => ?_⟩
    have hT2 : h''.get? s.heap.objs.size = some { cls := .type "tuple", data := .seq #[en.key, en.val] } := (sb.2 _ (Nat.ne_of_gt hlt)).trans hT
    have new : ObjOk X.prog X.w (upd H s.heap.objs.size (.tup [.non, v])) h'' s.heap.objs.size (.tup [.non, v]) :=
      ⟨by show 2 ≤ sizeLine; decide, [en.key, en.val], .cons (show en.key = .none from hk) (.cons rv .nil), ⟨_, hT2, rfl, _, rfl⟩⟩
    have I1 : Inv X pins σ (upd H s.heap.objs.size (.tup [.non, v])) { s with heap := h'' } :=
      I.turnedNew (t' := s.toks) (ch := [it]) (fun b ob hb e => (sb.2 b (by simpa using hb)).trans (hk2 b ob (by simpa using hb) e)) hf (Nat.le_refl _) new
    refine ⟨.ref s.heap.objs.size, _, I1, rfl, ⟨_, rfl, I.hok.fresh (Nat.le_refl _), rfl⟩, ⟨en.key, en.val, ?_⟩, fun b hb => ?_⟩
    · exact he'
    · have e : b = it := by simpa using hb
      rw [e, upd_ne (Nat.ne_of_lt hlt)]
      exact (hf it (by simp)).1
  done := by
    intro X hP hw hK hc i pins s σ H E I hf st hg
    subst hP hw hK
    obtain ⟨hd, hi⟩ := hg
    obtain ⟨f0, f1, f2, f3, f4, f5⟩ := hf it (by simp)
    obtain ⟨hs, hgd, hx, ep', en, hk, rv, hdt⟩ := frzZ I hd
    obtain ⟨rfl, rfl⟩ := dict_ep hod hdt
    obtain ⟨ok, ov, he⟩ := st
    exact wpAny_pyNext_items_end_raw (es := #[en]) (I.ok.hd hc) he ⟨o, hgd, hx, hdt⟩ (by simpa using hi) fun h' eb => ⟨rfl, I.turned (t' := s.toks) (fun b ob hb e => eb b ob hb e) f0 f1 f3 f4 f5⟩
  self := fun A i s Q E st h => let ⟨_, _, e⟩ := st; PySem.W.kcp_self e h
def iItemsZ (X : Cx) (td : TE) : TI := fun σ H R => td σ H fun x H1 => (∃ d o, x = .ref d ∧ ((∃ kvs, H1 d = some (.frz o (.dK kvs)) ∧ R (Iti d o kvs) H1) ∨ ∃ xs, H1 d = some (.frz o (dN X.w d xs)) ∧ R (ItiN X.w d o xs) H1)) ∨ ∃ d o v, x = .ref d ∧ H1 d = some (dz d o v) ∧ R (ItiZ d o v) H1
section
variable {X : Cx} {tg e : Expr} {td : TE} {apos cpos : Pos}
theorem pi_itemsZ {elts : List Expr} {kk : Nat} {tpos : Pos} (he : PE X e td) (hbase : attributeBase e "items" X.env (eval e X.env) = eval e X.env := by rfl) (hline : (apos.endLine == cpos.line) = true := by rfl) :
    PI X (.Tuple elts kk tpos) (.Call (.Attribute e "items" apos) [] [] cpos) (iItemsZ X td) := by
  refine ⟨fun pins s σ H R I h => ?_⟩
  refine wpAny_Call_method (T := "dict") (id := "dict.items") hbase rfl hline F.plainAttrs_dict F.slot_dict_items F.type_dict_items (thn (he.run pins s σ H _ I h) fun u s1 ⟨x, H1, I1, rx, q⟩ => ?_)
  rcases q with ⟨d, o, ex, q⟩ | ⟨d, o, v, ex, hd, q⟩
  · subst ex
    obtain rfl : u = Value.ref d := rx
    rcases q with ⟨kvs, hd, q⟩ | ⟨xs, hd, q⟩
    · obtain ⟨hs, hgd, hx, es, ep, vs, hdt, hsz, kv, hm⟩ := I1.frzK hd
      have hl : kvs.length = vs.length := Paired.length kv
      refine ⟨hm.dictOf.typeIs, hm.dictOf.mapOf.noDict, ?_⟩
      have I2 : Inv X pins σ H1 { s1 with heap := s1.heap.push { cls := .type "dict_items", data := .fields #[.ref d] } } := I1.kept (t' := s1.toks) fun b ob q => Heap.get?_push_of_some _ q
      have fin : wpAny (model X.prog X.w) X.A (pyIter (.ref s1.heap.objs.size)) (PIE X pins σ (.Tuple elts kk tpos) R) X.xe { s1 with heap := s1.heap.push { cls := .type "dict_items", data := .fields #[.ref d] } } := by
        refine wpAny_pyIter_items (d := d) (knd := mixKind X.prog X.w) ⟨_, Heap.get?_push_size _ rfl, rfl, rfl⟩ (hm.push _) (pi_one (tk := s1.toks) I2 _ (turn_items _ hdt) ⟨.none, .none, ?_⟩ q)
        rw [hl]
        exact Heap.get?_push_size _ rfl
      show wpAny _ _ (callWith cpos (.builtin "dict.items") [.ref d] [] []) _ X.xe s1
      exact method_meetsIn F.slot_dict_items F.entry_dict_items rfl (PySem.evalArgs_none ⟨rfl, hm.dictOf.typeIs, F.args_dict_items_1 _, _, meets_dict_items (mixKind X.prog X.w) d hs, ⟨vs, hm.dictOf⟩, fin⟩)
    · obtain ⟨hs, hgd, hx, es, ep, hdt, hsz, ent⟩ := frzN I1 hd
      have raw : s1.heap.DictRaw d es ep := ⟨o, hgd, hx, hdt⟩
      refine ⟨raw.typeIs, fun b e => ?_, ?_⟩
      · cases e; exact ⟨o, hgd, hx.2.1⟩
      have I2 : Inv X pins σ H1 { s1 with heap := s1.heap.push { cls := .type "dict_items", data := .fields #[.ref d] } } := I1.kept (t' := s1.toks) fun b ob q => Heap.get?_push_of_some _ q
      have fin : wpAny (model X.prog X.w) X.A (pyIter (.ref s1.heap.objs.size)) (PIE X pins σ (.Tuple elts kk tpos) R) X.xe { s1 with heap := s1.heap.push { cls := .type "dict_items", data := .fields #[.ref d] } } := by
        refine wpAny_pyIter_items_raw (d := d) ⟨_, Heap.get?_push_size _ rfl, rfl, rfl⟩ (raw.at fun o e => Heap.get?_push_of_some _ e) (pi_one (tk := s1.toks) I2 _ (turn_itemsN _ hdt) ⟨.none, .none, ?_⟩ q)
        rw [← hsz]
        exact Heap.get?_push_size _ rfl
      show wpAny _ _ (callWith cpos (.builtin "dict.items") [.ref d] [] []) _ X.xe s1
      exact method_meetsIn F.slot_dict_items F.entry_dict_items rfl (PySem.evalArgs_none ⟨rfl, raw.typeIs, F.args_dict_items_1 _, _, meets_dict_items_raw d hs, ⟨es, ep, raw⟩, fin⟩)
  · subst ex
    obtain rfl : u = Value.ref d := rx
    obtain ⟨hs, hgd, hx, ep, en, hk, rv, hdt⟩ := frzZ I1 hd
    have raw : s1.heap.DictRaw d #[en] ep := ⟨o, hgd, hx, hdt⟩
    refine ⟨raw.typeIs, fun b e => ?_, ?_⟩
    · cases e; exact ⟨o, hgd, hx.2.1⟩
    have I2 : Inv X pins σ H1 { s1 with heap := s1.heap.push { cls := .type "dict_items", data := .fields #[.ref d] } } := I1.kept (t' := s1.toks) fun b ob q => Heap.get?_push_of_some _ q
    have fin : wpAny (model X.prog X.w) X.A (pyIter (.ref s1.heap.objs.size)) (PIE X pins σ (.Tuple elts kk tpos) R) X.xe { s1 with heap := s1.heap.push { cls := .type "dict_items", data := .fields #[.ref d] } } := by
      refine wpAny_pyIter_items_raw (d := d) ⟨_, Heap.get?_push_size _ rfl, rfl, rfl⟩ (raw.at fun o e => Heap.get?_push_of_some _ e) (pi_one (tk := s1.toks) I2 _ (turn_itemsZ _ hdt) ⟨.none, .none, ?_⟩ q)
      exact Heap.get?_push_size _ rfl
    show wpAny _ _ (callWith cpos (.builtin "dict.items") [.ref d] [] []) _ X.xe s1
    exact method_meetsIn F.slot_dict_items F.entry_dict_items rfl (PySem.evalArgs_none ⟨rfl, raw.typeIs, F.args_dict_items_1 _, _, meets_dict_items_raw d hs, ⟨#[en], ep, raw⟩, fin⟩)
end
def itemsZof (S : Sto) : D → Option (List D)
  | .dc0 v => some [.tux [.non, v]]
  | d => (lckOf S d).map pairsD
def rItems0 (a : RE) : RA := fun δ S => (a δ S).bind fun d S1 => .lift (itemsZof S1 d) S1
theorem it_itemsZ {wd : World} {K : Fg} {mg : Str → Option Value} {F : Hp} {α : List Addr} {a : Addr} {o : Obj} {v : V} {d : D} (hF : F a = some (dz a o v)) (h : DV wd K mg F α v d) : ItOk wd K mg F α (ItiZ a o v) [.tux [.non, d]] where
  go := fun F' H' i s1 s2 hi => ⟨s2 _ _ (s1 _ _ hF), hi⟩
  stop := fun F' H' s1 s2 => ⟨s2 _ _ (s1 _ _ hF), Nat.le_refl _⟩
  yld := fun F' H' H2 i x dd s1 s2 hd ⟨T, e2, e3, e4⟩ => by
    have hi : i = 0 := by
      cases i with
      | zero => rfl
      | succ i => simp at hd
    subst hi
    cases hd
    refine .inr ⟨T, _, e3, e4, ?_⟩
    subst e2
    have hn : F' T = none := by
      cases q : F' T with
      | none => rfl
      | some u => rw [s2 _ _ q] at e3; cases e3
    have sb := s1.trans (Sub.new (o := .tup [.non, v]) hn)
    have g := h.mono (β := []) sb
    rw [List.append_nil] at g
    exact .tux (SqT.of upd_same) (.cons .non (.cons g .nil))
section
variable {X : Cx} {W : WX} {e : Expr} {ra : RE} {apos cpos : Pos}
theorem pid_items0 {elts : List Expr} {kk : Nat} {tpos : Pos} (ha : PD X W e ra) (hbase : attributeBase e "items" X.env (eval e X.env) = eval e X.env := by rfl) (hline : (apos.endLine == cpos.line) = true := by rfl) :
    PId X W (.Tuple elts kk tpos) (.Call (.Attribute e "items" apos) [] [] cpos) (rItems0 ra) := by
  obtain ⟨t, p1, s1⟩ := ha.ex
  refine ⟨_, pi_itemsZ p1 hbase hline, fun α F σ H δ S Q hr hs h => ?_⟩
  refine s1 α F σ H δ S _ hr hs (wp.bind h fun d S1 e1 x H1 β F1 r1 q1 v1 h1 => ?_)
  obtain ⟨ds, e2, h2⟩ := wp.lift h1
  unfold itemsZof at e2
  split at e2
  · cases e2
    cases v1 with
    | dc0 g1 g2 => exact .inr ⟨_, _, _, rfl, r1.sub _ _ g1, h2.now r1 (it_itemsZ g1 g2)⟩
  · obtain ⟨kvs, e3, rfl⟩ := Option.map_eq_some_iff.mp e2
    obtain ⟨l, o, rfl, q⟩ := r1.locked v1 e3
    refine .inl ⟨l, o, rfl, ?_⟩
    rcases q with ⟨ws, g1, g2⟩ | ⟨xs, g1, g2⟩
    · exact .inl ⟨ws, r1.sub _ _ g1, h2.now r1 (it_items g1 g2)⟩
    · exact .inr ⟨xs, r1.sub _ _ g1, h2.now r1 (it_itemsN g1 g2)⟩
end
end DL
set_option Elab.async false
set_option linter.all false
set_option maxRecDepth 100000
set_option maxHeartbeats 3000000
set_option autoImplicit false
/-! A refusal that leaves a list comprehension. -/
namespace PySem
end PySem
namespace L2
open PySem PySem.Spec PyProof.Rows
end L2
set_option Elab.async false
set_option linter.all false
set_option maxRecDepth 100000
set_option maxHeartbeats 4000000
set_option autoImplicit false
/-! Data layer: a list comprehension whose item may refuse. -/
namespace DL
open PySem PySem.Spec PyProof.Rows L2
end DL
set_option Elab.async false
set_option linter.all false
set_option maxRecDepth 100000
set_option maxHeartbeats 4000000
set_option autoImplicit false
/-! Data layer: walks over lists as they stand at each turn, the store's own too. -/
namespace DL
open PySem PySem.Spec PyProof.Rows L2
/-- the next item by the store: stuck, none left, or an item -/
abbrev Nx := Sto → Nat → Option (Option D)
section
variable {X : Cx} {W : WX} {wd : World} {K : Fg} {mg : Str → Option Value} {α β : List Addr} {F F1 H H1 : Hp} {S S1 : Sto} {pos : Pos}
structure ItV (wd : World) (K : Fg) (mg : Str → Option Value) (F : Hp) (α : List Addr) (J : It) (nx : Nx) : Prop where
  go : ∀ (γ : List Addr) (F' H' : Hp) (S' : Sto) (i : Nat) (d : D), Sub F F' → Rel wd K mg (α ++ γ) F' H' S' → nx S' i = some (some d) → J.go i H'
  stop : ∀ (γ : List Addr) (F' H' : Hp) (S' : Sto) (i : Nat), Sub F F' → Rel wd K mg (α ++ γ) F' H' S' → nx S' i = some none → J.stop i H'
  yld : ∀ (γ : List Addr) (F' H' : Hp) (S' : Sto) (H2 : Hp) (i : Nat) (x : V) (d : D), Sub F F' → Rel wd K mg (α ++ γ) F' H' S' → nx S' i = some (some d) → J.yld i H' x H2 → (H2 = H' ∧ DV wd K mg F' (α ++ γ) x d) ∨ ∃ T o, H' T = none ∧ H2 = upd H' T o ∧ DV wd K mg (upd F' T o) (α ++ γ) x d
theorem ItV.mono {J : It} {nx : Nx} (h : ItV wd K mg F α J nx) (s : Sub F F1) : ItV wd K mg F1 (α ++ β) J nx where
  go := fun γ F' H' S' i d a r e => h.go (β ++ γ) F' H' S' i d (s.trans a) (by rw [← List.append_assoc]; exact r) e
  stop := fun γ F' H' S' i a r e => h.stop (β ++ γ) F' H' S' i (s.trans a) (by rw [← List.append_assoc]; exact r) e
  yld := fun γ F' H' S' H2 i x d a r e q => by
    have := h.yld (β ++ γ) F' H' S' H2 i x d (s.trans a) (by rw [← List.append_assoc]; exact r) e q
    rw [← List.append_assoc] at this
    exact this
theorem ItV.came {J : It} {nx : Nx} {H2 : Hp} {i : Nat} {x : V} {d : D} (h : ItV wd K mg F α J nx) {γ : List Addr} {F' H' : Hp} {S' : Sto} (s : Sub F F') (hr : Rel wd K mg (α ++ γ) F' H' S') (hd : nx S' i = some (some d)) (q : J.yld i H' x H2) :
    ∃ F2, Rel wd K mg (α ++ γ ++ []) F2 H2 S' ∧ Stp (α ++ γ) F' H' [] F2 H2 ∧ DV wd K mg F2 (α ++ γ ++ []) x d := by
  rcases h.yld γ F' H' S' H2 i x d s hr hd q with ⟨e, v⟩ | ⟨T, o, e1, e2, v⟩
  · subst e
    refine ⟨F', ?_, Stp.refl, v.mono (Sub.refl F')⟩
    rw [List.append_nil]; exact hr
  · subst e2
    obtain ⟨a1, a2⟩ := hr.newF (o := o) e1
    exact ⟨_, a1, a2, v.mono (Sub.refl _)⟩
/-! ### what is walked -/
end
end DL
set_option Elab.async false
set_option linter.all false
set_option maxRecDepth 100000
set_option maxHeartbeats 4000000
set_option autoImplicit false
/-! Data layer: a call of what stands at a place of a list. -/
namespace DL
open PySem PySem.Spec PyProof.Rows L2
section
variable {X : Cx} {W : WX} {a b e : Expr} {es : List Expr} {rf : RE} {rs : RA} {p pos : Pos}
def tCallS (X : Cx) (W : WX) (tf : TE) (t : TA) : TE := fun σ H Q => tf σ H fun v H1 => ∃ (f : Addr) (fd : FuncData) (ps : List Str) (k : Nat) (sp : Sp), v = .ref f ∧ FnG X.prog X.w X.K X.mg X.base k f fd ps sp ∧ Room k X.A ∧ PySem.W.keepIn X.K (.ref f) = true ∧ Binds X.K fd ps [] ∧ t σ H1 fun vs H2 => sp vs H2 Q (WE W σ)
end
end DL
set_option Elab.async false
set_option linter.all false
set_option maxRecDepth 100000
set_option maxHeartbeats 4000000
set_option autoImplicit false
/-! Data layer: list.pop(i), str.partition. -/
namespace DL
open PySem PySem.Spec PyProof.Rows L2
end DL
set_option Elab.async false
set_option linter.all false
set_option maxRecDepth 100000
set_option maxHeartbeats 4000000
set_option autoImplicit false
/-! Exceptions that are made and not raised. -/
namespace L2
open PySem PySem.Spec PyProof.Rows DL
end L2
namespace DL
open PySem PySem.Spec PyProof.Rows L2
end DL
set_option Elab.async false
set_option linter.all false
set_option maxRecDepth 100000
set_option maxHeartbeats 4000000
set_option autoImplicit false
/-! Lambdas without parameters that are handed to a def: the making of one, said exactly. -/
namespace LamX
open PySem PySem.Spec PyProof.Rows L2
/-- all that a table tells are code objects of one name, seen by H -/
def TabOk (H : Hp) (ps : Array Value) (q : Str) : Prop := TriplesOk ps.toList ∧ ∀ (pos : Pos) (cv : Value), codeAmong pos ps.toList = some cv → ∃ c, cv = .ref c ∧ H c = some (CodeO c q)
section
variable {X : Cx} {pins : List (Addr × Obj)} {σ : L2.St} {H : Hp} {s : Shared}
/-- what the making of a lambda does to the heap that is known -/
def Made (ps : Array Value) (H H1 : Hp) (P c' : Addr) (q : Str) : Prop := (H1 = H ∧ H c' = some (CodeO c' q) ∧ ∃ pos : Pos, codeAmong pos ps.toList = some (.ref c')) ∨ ∃ ps' : Array Value, H c' = none ∧ c' ≠ P ∧ H1 = upd (upd H P (.tbl ps')) c' (CodeO c' q) ∧ TriplesOk ps'.toList ∧ ∀ (pos : Pos) (cv : Value), codeAmong pos ps'.toList = some cv → cv = .ref c' ∨ ∃ pos' : Pos, codeAmong pos' ps.toList = some cv
theorem lam_make3 {c P : Addr} {params : Arguments} {body : Expr} {scope : Scope} {pos : Pos} {ps : Array Value} {E : Value → Shared → Prop} {Q : Value → Shared → Prop} (I : Inv X pins σ H s) (TB : TabB X.base X.mg c P) (hcode : X.env.code = .ref c)
    (hP : H P = some (.tbl ps)) (hT : TabOk H ps (X.env.qual ++ "<lambda>")) (hdef : defaultsOf params X.env = ([], [])) (hfree : ∀ y ∈ scope.names, y.2 = .free → ∃ c, X.env.cells.lookup y.1 = some c)
    (h : ∀ (f c' : Addr) (pm ctv : Value) (H1 : Hp) (s' : Shared), Inv X pins σ H1 s' → Made ps H H1 P c' (X.env.qual ++ "<lambda>") →
      s'.heap.get? f = some (PySem.W.kla_obj "<lambda>" (X.env.qual ++ "<lambda>") params body scope (cloFrom X.env.cells scope.names []) pm c' ctv) → H1 f = none → f ∉ frs X.stack → Q (.ref f) s') :
    wpAny (model X.prog X.w) X.A (eval (.Lambda params body scope pos) X.env) Q E s := by
  have tabs : Tabs [(P, X.env.qual ++ "<lambda>")] H := fun p hp => by
    rw [List.mem_singleton.mp hp]
    exact ⟨ps, hP, hT.1, hT.2⟩
  have blt : s.heap.BuiltinsAt X.mg P := TB.bm.keeps I.bk
  have tabAt : s.heap.get? P = some { cls := .none, data := .fields ps } := I.hok P _ hP
  have off : ∀ f, s.heap.objs.size ≤ f → f ∉ frs X.stack := fun f hf z => by
    rcases List.mem_cons.mp (I.stkSub _ z) with e | e
    · have l := I.lt
      rw [← e] at l
      exact absurd (Nat.lt_of_lt_of_le l hf) (Nat.lt_irrefl _)
    · exact I.nofs hf e
  refine PySem.W.kla_eval hdef ?_
  by_cases hc : ∃ cv, codeAmong pos ps.toList = some cv
  · obtain ⟨cv, hc⟩ := hc
    obtain ⟨c', rfl, hco⟩ := hT.2 pos cv hc
    refine PySem.W.kla_makeFunctionHit (mg := X.mg) (c := c) (P := P) (ps := ps) (closure_ok hfree) I.ok.glob (I.mod.glob.keeps I.bk) hcode (TB.code.keeps I.bk) tabAt hT.1 hc blt fun ctv h' tk hx hsz => ?_
    refine h h'.objs.size c' ((X.mg "__name__").getD .none) ctv H _ (I.kept fun b o e => Heap.get?_push_of_some _ (hx b o e)) (.inl ⟨rfl, hco, pos, hc⟩) (Heap.get?_push_size _ rfl) (I.hok.fresh hsz) (off _ hsz)
  · have hc : codeAmong pos ps.toList = none := by
      cases q : codeAmong pos ps.toList with
      | none => rfl
      | some cv => exact absurd ⟨cv, q⟩ hc
    refine PySem.W.kla_makeFunction (mg := X.mg) (c := c) (P := P) (ps := ps) (closure_ok hfree) I.ok.glob (I.mod.glob.keeps I.bk) hcode (TB.code.keeps I.bk) tabAt hT.1 hc TB.gP blt fun c' ctv h' tk hx hge hlt hrec htb => ?_
    obtain ⟨c2, oc, vs, t, e2, hoc, hd, hv⟩ := hrec
    cases e2
    have hsz : s.heap.objs.size ≤ h'.objs.size := Nat.le_trans hge (Nat.le_of_lt hlt)
    have nC : H c' = none := I.hok.fresh hge
    have cP : c' ≠ P := fun z => by rw [z, hP] at nC; cases nC
    have I1 := inv_table (t' := tk) (more := #[rawInt pos.line, rawInt pos.col, .ref c']) (h' := h'.push (PySem.W.kla_obj "<lambda>" (X.env.qual ++ "<lambda>") params body scope (cloFrom X.env.cells scope.names []) ((X.mg "__name__").getD .none) c' ctv)) I hP
      (fun b o hb e => Heap.get?_push_of_some _ (hx b o hb e)) (Heap.get?_push_of_some _ htb) hge ⟨oc, vs, t, Heap.get?_push_of_some _ hoc, hd, hv⟩
    have eL : (ps ++ #[rawInt pos.line, rawInt pos.col, .ref c']).toList = ps.toList ++ [rawInt pos.line, rawInt pos.col, .ref c'] := by simp
    refine h h'.objs.size c' ((X.mg "__name__").getD .none) ctv _ _ I1 (.inr ⟨_, nC, cP, rfl, ?_, fun p' cv hcv => ?_⟩) (Heap.get?_push_size _ rfl) ?_ (off _ hsz)
    · rw [eL]
      exact PySem.TriplesOk_snoc _ _ _ _ hT.1
    · rw [eL] at hcv
      rcases among_app _ hT.1 hcv with z | z
      · exact .inr ⟨p', z⟩
      · exact .inl z
    · have n1 : h'.objs.size ≠ c' := Nat.ne_of_gt hlt
      have n2 : h'.objs.size ≠ P := Nat.ne_of_gt (Nat.lt_of_lt_of_le (Heap.lt_size tabAt) hsz)
      rw [upd_ne n1, upd_ne n2]
      exact I.hok.fresh hsz
end
end LamX
set_option Elab.async false
set_option linter.all false
set_option maxRecDepth 100000
set_option maxHeartbeats 4000000
set_option autoImplicit false
/-! Lambdas without parameters that are handed to a def: the call. -/
namespace LamX
open PySem PySem.Spec PyProof.Rows L2
theorem Made.code {ps : Array Value} {H H1 : Hp} {P c' : Addr} {q : Str} (m : Made ps H H1 P c' q) : H1 c' = some (CodeO c' q) := by
  rcases m with ⟨rfl, e, _⟩ | ⟨ps', _, _, rfl, _⟩
  · exact e
  · exact upd_same
/-- the lambda called, in the def that got it, said of the very slots there: what it lets out is asked of them -/
theorem pe_act3 {X : Cx} {pins : List (Addr × Obj)} {σ : L2.St} {H : Hp} {s : Shared} {CXg : CXT} {Eg : XK} {Ng : List Str} {qg : Str} {sg : Scope} {g f c' : Addr} {cdg pm ctv : Value} {params : Arguments} {body : Expr} {scope : Scope} {k i : Nat} {a : Str} {pn : List (Addr × Obj)} {xe : Value → Shared → Prop} {W : WX} {t : XK → TE} {p1 p2 : Pos}
    (I : Inv X pins σ H s) (L : LamS X.env.scope scope) (hf : s.heap.get? f = some (PySem.W.kla_obj "<lambda>" (X.env.qual ++ "<lambda>") params body scope (cloFrom X.env.cells scope.names []) pm c' ctv)) (hfn : H f = none) (hfr : f ∉ frs X.stack)
    (hbind : bindArgs (PySem.W.kla_fn "<lambda>" (X.env.qual ++ "<lambda>") params body scope (cloFrom X.env.cells scope.names []) pm (.ref c') ctv) ⟨[], []⟩ = pure [])
    (tk : Takes ((cxOf CXg X.prog X.w X.K X.mg X.base Ng qg sg g cdg X.A X.stack s H Eg).tr pn xe) W) (hr : Room (k + 1) (X.A.deeper (envOfC qg sg s.heap.objs.size g cdg)))
    (hbody : ∀ (A : Around) (outer : List Env) (s : Shared) (H : Hp) (E : XK), A.guards = X.A.guards → Room k (A.deeper (lamEnv X scope s.heap.objs.size f c')) → PE (lamCx X A outer s H E scope f c') body (t E))
    (hN : Ng[i]? = some a) (hv : Vis sg a) (hd : (a == ("__debug__" : Str)) = false := by decide) (hcd : (a == ("__classdict__" : Str)) = false := by decide) :
    PE ((cxOf CXg X.prog X.w X.K X.mg X.base Ng qg sg g cdg X.A X.stack s H Eg).tr pn xe) (.Call (.Name a p1) [] [] p2)
      (fun σZ HZ Q => σZ[i]? = some (some (.ref f)) ∧ HZ c' = some (CodeO c' (X.env.qual ++ "<lambda>")) ∧ t (fun cls d H => W cls d σZ H) σ HZ Q) := by
  refine ⟨fun pinsZ sZ σZ HZ Q IZ ⟨hs, hc, ht⟩ => ?_⟩
  refine wpAny_Call_Name_kw (thn ((pe_var (pos := p1) (i := i) hN hv hd hcd).run pinsZ sZ σZ HZ (fun v H1 => v = .ref f ∧ H1 = HZ) IZ ⟨.ref f, hs, rfl, rfl⟩) fun u s1 ⟨v, H1, I1, r1, ev, eH⟩ => ?_)
  subst ev
  rw [eH] at I1
  obtain rfl : u = Value.ref f := r1
  have of1 : s1.heap.get? f = some (PySem.W.kla_obj "<lambda>" (X.env.qual ++ "<lambda>") params body scope (cloFrom X.env.cells scope.names []) pm c' ctv) := I1.base.keep f _ hf hfn hfr (fun z => nomatch (show f ∈ ([] : List Addr) from z))
  have un : Un (frs X.stack) [] H HZ s.heap s1.heap := I1.base
  obtain ⟨⟨oc, vs, tt, hoc, hdc, hvc⟩, _, _⟩ := I1.hok c' _ hc
  refine PySem.W.callWith_F0 ⟨_, _, _, _, of1⟩ ?_
  have rc : codeAny (model X.prog X.w) (X.A.deeper (envOfC qg sg s.heap.objs.size g cdg)) (.call (.ref f) ⟨[], []⟩) (CR (L2.CX X.prog X.w) (envOfC qg sg s.heap.objs.size g cdg :: X.stack) X.prog X.w HZ s1 Q (fun cls d H => W cls d σZ H)) s1 := by
    refine PySem.W.kla_callFunE hr.depth of1 rfl L.co L.gen rfl ⟨c', oc, vs, tt, rfl, hoc, hdc, hvc⟩ ?_
    rw [hbind]
    refine wpAny_pure (wpAny_newFunctionEnv (fun y hy => (L.own y hy).2) (fun y hy => absurd hy (by simp)) (fun h₁ hns hsb => ⟨I1.nolimit.fresh _ hsb, ?_⟩) L.kind)
    show codeAny _ _ (.expr body (lamEnv X scope s1.heap.objs.size f c')) _ _
    have kp : ∀ b o, s1.heap.get? b = some o → h₁.get? b = some o := fun b o e => hsb.extBut b o (Nat.ne_of_lt (Heap.lt_size e)) (Heap.get?_push_of_some _ e)
    have J : Inv (lamCx X (X.A.deeper (envOfC qg sg s.heap.objs.size g cdg)) (envOfC qg sg s.heap.objs.size g cdg :: X.stack) s1 HZ (fun cls d H => W cls d σZ H) scope f c') [] σ HZ { s1 with heap := h₁, toks := s1.toks + ([] : List (Str × Value)).length } :=
      lam_start2 I L I1.env0 hr.hd un hns kp
    refine PySem.W.kla_codeExpr (wpAny_mono ((hbody (X.A.deeper (envOfC qg sg s.heap.objs.size g cdg)) _ s1 HZ (fun cls d H => W cls d σZ H) rfl (hr.deeper _)).run [] _ _ HZ Q J ht) (fun v s' ⟨w', H', J', rv, q⟩ => ⟨w', H', J'.os, J'.bare, J'.base, J'.hok, rv, q⟩) fun e s' hq => hq)
  refine wpAny_call (codeAny_mono rc fun r s' hq => ?_)
  cases r with
  | error e => exact passAt tk σZ pinsZ HZ s1 e s' I1 hq
  | ok fl =>
    cases fl with
    | ret u => exact I1.after hq
    | next => exact False.elim hq
    | brk => exact False.elim hq
    | cont => exact False.elim hq
/-- the def that calls what it got, a: its reading TT, told of the lambda's address, its code object and the lambda's reading -/
def Gives3 (X : Cx) (Ng : List Str) (x : Str) (sg : Scope) (g : Addr) (cdg : Value) (bg : List Stmt) (a : Str) (q : Str) (TT : Addr → Addr → (XK → Hp → VK → Prop) → Hp → VK → Prop) : Prop :=
  ∀ (f c' : Addr) (s : Shared) (H : Hp) (Q : VK) (tl : XK → Hp → VK → Prop),
    (∀ (W : WX) (pn : List (Addr × Obj)) (xe : Value → Shared → Prop) (p1 p2 : Pos), Takes ((cxOf C8.CX0 X.prog X.w X.K X.mg X.base Ng x sg g cdg X.A X.stack s H C8.E0).tr pn xe) W →
      PE ((cxOf C8.CX0 X.prog X.w X.K X.mg X.base Ng x sg g cdg X.A X.stack s H C8.E0).tr pn xe) (.Call (.Name a p1) [] [] p2) (fun σZ HZ Q => σZ[0]? = some (some (.ref f)) ∧ HZ c' = some (CodeO c' q) ∧ tl (fun cls d H => W cls d σZ H) HZ Q)) →
    H c' = some (CodeO c' q) → TT f c' tl H Q →
    ∃ t, PSs (cxOf C8.CX0 X.prog X.w X.K X.mg X.base Ng x sg g cdg X.A X.stack s H C8.E0).nox bg t ∧ t { nx := fun _ H' => Q .non H', rt := Q } (L2.start Ng [.ref f]) H
section
variable {X : Cx}
theorem pe_lamcall3 {TT : Addr → Addr → (XK → Hp → VK → Prop) → Hp → VK → Prop} {x a : Str} {g c P : Addr} {k : Nat} {pg : Arguments} {bg : List Stmt} {sg : Scope} {dV kV doc pm cdv ct oc : Value} {an od : Option Addr} {osl : Array (Option Value)} {Ng : List Str}
    {params : Arguments} {body : Expr} {scope : Scope} {t : XK → TE} {p lpos pos : Pos} (hg : Gl X x) (hm : X.mg x = some (.ref g)) (hk : PySem.W.keepIn X.K (.ref g) = true)
    (lk : X.K.lookup g = some ⟨oc, od, .func (PySem.W.fnOf x x pg bg sg dV kV doc pm an cdv ct), osl⟩) (hcg : PySem.W.codeIn X.K cdv x = true) (hb : L2.Binds X.K (PySem.W.fnOf x x pg bg sg dV kV doc pm an cdv ct) [a] []) (Sg : FnScope Ng [a] sg) (hNg : Ng[0]? = some a) (hva : Vis sg a)
    (hG : Gives3 X Ng x sg g cdv bg a (X.env.qual ++ "<lambda>") TT)
    (TB : TabB X.base X.mg c P) (hcode : X.env.code = .ref c) (hr : Room (k + 2) X.A) (L : LamS X.env.scope scope) (hdef : defaultsOf params X.env = ([], []))
    (hbind : ∀ (q : Str) (cl : List (Str × Addr)) (pm cv ctv : Value), bindArgs (PySem.W.kla_fn "<lambda>" q params body scope cl pm cv ctv) ⟨[], []⟩ = pure [])
    (hbody : ∀ (A : Around) (outer : List Env) (s : Shared) (H : Hp) (E : XK) (f c' : Addr), A.guards = X.A.guards → Room k (A.deeper (lamEnv X scope s.heap.objs.size f c')) → PE (lamCx X A outer s H E scope f c') body (t E))
    (hdb : (x == ("__debug__" : Str)) = false := by decide) (hd : (a == ("__debug__" : Str)) = false := by decide) (hcd : (a == ("__classdict__" : Str)) = false := by decide) :
    PE X (.Call (.Name x p) [.Lambda params body scope lpos] [] pos) (fun σ H Q => ∃ ps : Array Value, H P = some (.tbl ps) ∧ TabOk H ps (X.env.qual ++ "<lambda>") ∧ ∀ (f c' : Addr) (H1 : Hp), Made ps H H1 P c' (X.env.qual ++ "<lambda>") → H1 f = none → TT f c' (fun E H' Q' => t E σ H' Q') H1 Q) := by
  refine ⟨fun pins s σ H Q I ⟨ps, hP, hT, h⟩ => ?_⟩
  refine wpAny_Call_Name_kw (ld_glob I hg hm ?_ hdb)
  refine PySem.W.callWith_K (h₀ := X.base) I.ok.mod.kin hk ?_ (by rfl) (by rfl)
  show wpAny _ _ (spliced ((false, eval (.Lambda params body scope lpos) X.env) :: backTo pos (starEach [] X.env))) _ _ s
  refine Calls.spliced_cons (lam_make3 I TB hcode hP hT hdef (L.has I.ok) fun f c' pm' ctv H1 s' I1 md hf hfn hfr => ?_)
  refine Calls.spliced_nil ⟨I1.kIn, ?_⟩
  have rc : codeAny (model X.prog X.w) X.A (.call (.ref g) ⟨[.ref f], []⟩) (CR C8.CX0 X.stack X.prog X.w H1 s' Q C8.E0) s' := by
    refine run_ofS (N := Ng) (ps := [a]) (us := [.ref f]) (vs := [.ref f]) lk hcg Sg hr I1.env0 (hb s' [.ref f] I1.kIn rfl) (.cons rfl .nil) rfl fun hr' => ?_
    obtain ⟨t', ht', hq'⟩ := hG f c' s' H1 Q (fun E H' Q' => t E σ H' Q') (fun W pn xe p1 p2 tk => pe_act3 (i := 0) I1 L hf hfn hfr (hbind _ _ _ _ _) tk hr' (fun A outer s H E hg2 hr2 => hbody A outer s H E f c' hg2 hr2) hNg hva hd hcd) md.code (h f c' H1 md hfn)
    exact ⟨t', ht'.nox, hq'⟩
  refine wpAny_call (codeAny_mono rc fun r s2 hq => ?_)
  cases r with
  | error e => exact (show False from hq).elim
  | ok fl =>
    cases fl with
    | ret u => exact I1.after hq
    | next => exact False.elim hq
    | brk => exact False.elim hq
    | cont => exact False.elim hq
end
end LamX
set_option Elab.async false
set_option linter.all false
set_option maxRecDepth 100000
set_option maxHeartbeats 4000000
set_option autoImplicit false
/-! Data layer: captured slots, the lambda called where it was handed to. -/
namespace DL
open PySem PySem.Spec PyProof.Rows L2
section
variable {w : World} {K : Fg} {mg : Str → Option Value} {α : List Addr} {F H : Hp} {S : Sto} {Q : VK} {E : XK}
/-- a def's result, seen from its body -/
theorem wpS_of_def {N : List Str} {r : RS} {ds : List D} (h1 : Rel w K mg α F H S) (h3 : wp w K mg α F H (relD w K mg) (mDef N.length r ds S) Q E) :
    wpS w K mg α F H (r (ds.map some ++ List.replicate (N.length - ds.length) none) S) { nx := fun _ H' => Q .non H', rt := Q } (fun cls d _ H => E cls d H) := by
  have h3 : wp w K mg α F H (relD w K mg) (mDef N.length r ds S) Q E := h3
  have hl : α.length = S.length := h1.len
  unfold mDef at h3
  rw [← hl] at h3
  have an : α ++ [] = α := List.append_nil α
  cases q : r (ds.map some ++ List.replicate (N.length - ds.length) none) S with
  | nx δ S1 =>
    rw [q] at h3
    dsimp only at h3
    split at h3
    · rename_i hc
      intro σ' H' β F' r1 s1 _
      exact h3 .non H' [] F' (by rw [an]; exact Rel.trunc r1 hc) s1.drop .non
    · exact h3.elim
  | rt d S1 =>
    rw [q] at h3
    dsimp only at h3
    split at h3
    · rename_i hc
      rw [Bool.and_eq_true] at hc
      intro v H' β F' r1 s1 hv
      exact h3 v H' [] F' (by rw [an]; exact Rel.trunc r1 hc.2) s1.drop (by rw [an]; exact DV.shrink hc.1 hv)
    · unfold giveD at h3
      cases d with
      | ptr k =>
        dsimp only at h3
        cases q2 : S1[k]? with
        | none => rw [q2] at h3; exact h3.elim
        | some u =>
          rw [q2] at h3
          dsimp only at h3
          split at h3
          · rename_i hc
            rw [Bool.and_eq_true, Bool.and_eq_true, Bool.and_eq_true, decide_eq_true_eq] at hc
            intro v H' β F' r1 s1 hv
            cases hv with
            | ptr ea =>
              rename_i a
              obtain ⟨g1, g2⟩ := Rel.give r1 hc.2 ea hc.1.2 q2 hc.1.1.1 hc.1.1.2
              exact h3 (.ref a) H' [a] F' g2 (s1.one g1) (.ptr (by rw [List.getElem?_append_right (Nat.le_refl _), Nat.sub_self]; rfl))
          · exact h3.elim
      | _ => exact h3.elim
  | err c fs δ S1 =>
    rw [q] at h3
    dsimp only at h3
    split at h3
    · rename_i hc
      rw [Bool.and_eq_true] at hc
      intro cls dd σ' H' β F' r1 s1 _ he
      refine h3 cls dd H' [] F' (by rw [an]; exact Rel.trunc r1 hc.2) s1.drop ?_
      rw [an]
      refine ⟨he.1, he.2.imp id fun ⟨d, xs, e1, e2, e3, e4⟩ => ⟨d, xs, e1, e2, e3, DVs.shrink hc.1 e4⟩⟩
    · exact h3.elim
  | bk δ S1 => rw [q] at h3; exact h3.elim
  | ct δ S1 => rw [q] at h3; exact h3.elim
  | stuck => rw [q] at h3; exact h3.elim
/-- the reading that a mirror itself gives -/
def tmE (wd : World) (K : Fg) (mg : Str → Option Value) (W : WX) (r : RE) : TE := fun σ H Q => ∃ α F δ S, Rel wd K mg α F H S ∧ Slots wd K mg F α σ δ ∧ wp wd K mg α F H (relD wd K mg) (r δ S) Q (fun c d H' => W c d σ H')
theorem PD.canon {X : Cx} {W : WX} {e : Expr} {r : RE} (h : PD X W e r) : PE X e (tmE X.w X.K X.mg W r) := by
  obtain ⟨t, p, s⟩ := h.ex
  exact ⟨fun pins s0 σ H Q I ⟨α, F, δ, S, h1, h2, h3⟩ => p.run pins s0 σ H Q I (s α F σ H δ S Q h1 h2 h3)⟩
/-- the slots in which only what was captured is told -/
def mkSl (n : Nat) : List Nat → List D → Sl
  | i :: is, d :: ds => (mkSl n is ds).set i (some d)
  | _, _ => List.replicate n none
def capD (δ : Sl) : List Nat → Option (List D)
  | [] => some []
  | i :: is => match δ[i]? with
    | some (some d) => (capD δ is).map (d :: ·)
    | _ => none
theorem mkSl_len (n : Nat) : ∀ (is : List Nat) (ds : List D), (mkSl n is ds).length = n
  | [], _ => by unfold mkSl; simp
  | _ :: _, [] => by unfold mkSl; simp
  | i :: is, d :: ds => by unfold mkSl; rw [List.length_set]; exact mkSl_len n is ds
/-- which values were captured -/
def CapV (σ : L2.St) (is : List Nat) (vs : List V) : Prop := ∀ p ∈ is.zip vs, σ[p.1]? = some (some p.2)
theorem slots_cap {σ : L2.St} : ∀ {is : List Nat} {vs : List V} {ds : List D}, CapV σ is vs → DVs w K mg F α vs ds → Slots w K mg F α σ (mkSl σ.length is ds)
  | [], _, _, _, _ => ⟨by rw [mkSl_len], fun i d e => by unfold mkSl at e; rw [List.getElem?_replicate] at e; split at e <;> cases e⟩
  | _ :: _, [], [], _, .nil => ⟨by rw [mkSl_len], fun i d e => by unfold mkSl at e; rw [List.getElem?_replicate] at e; split at e <;> cases e⟩
  | i :: is, v :: vs, d :: ds, hc, .cons hv t => by
    have ih := slots_cap (is := is) (fun p hp => hc p (List.mem_cons_of_mem _ hp)) t
    have h0 := hc (i, v) List.mem_cons_self
    refine ⟨by rw [mkSl_len], fun j e g => ?_⟩
    unfold mkSl at g
    by_cases z : j = i
    · subst z
      have hj : j < (mkSl σ.length is ds).length := by
        have := (List.getElem?_eq_some_iff.mp g).1
        rw [List.length_set] at this; exact this
      rw [List.getElem?_set_self hj] at g
      cases g
      exact ⟨v, h0, hv⟩
    · rw [List.getElem?_set_ne (Ne.symm z)] at g
      exact ih.2 j e g
theorem cap_vals {σ : L2.St} {δ : Sl} (hs : Slots w K mg F α σ δ) : ∀ {is : List Nat} {ds : List D}, capD δ is = some ds → ∃ vs, CapV σ is vs ∧ DVs w K mg F α vs ds
  | [], ds, e => by
    unfold capD at e
    cases e
    exact ⟨[], (fun _ z => nomatch z), .nil⟩
  | i :: is, ds, e => by
    unfold capD at e
    split at e
    · rename_i d g
      obtain ⟨ds', e2, rfl⟩ := Option.map_eq_some_iff.mp e
      obtain ⟨vs, h1, h2⟩ := cap_vals hs e2
      obtain ⟨v, g1, g2⟩ := hs.2 i d g
      refine ⟨v :: vs, fun p hp => ?_, .cons g2 h2⟩
      rcases List.mem_cons.mp hp with rfl | hp
      · exact g1
      · exact h1 p hp
    · cases e
end
open Classical in
/-- the call of what was handed in, where it was handed in at slot 0 -/
noncomputable def rThk (d0 : D) (T : Sto → Res D) : RE := fun δ S => if δ[0]? = some (some d0) then T S else .stuck
end DL
set_option Elab.async false
set_option linter.all false
set_option maxRecDepth 100000
set_option maxHeartbeats 4000000
set_option autoImplicit false
/-! Data layer: a lambda handed to a def. -/
namespace DL
open PySem PySem.Spec PyProof.Rows L2 LamX
/-- what the reading of the lambda asks of the def that calls it -/
def TTd (w : World) (K : Fg) (mg : Str → Option Value) (q : Str) (mT : D → (Sto → Res D) → Sto → Res D) : Addr → Addr → (XK → Hp → VK → Prop) → Hp → VK → Prop := fun f c' tl H Q =>
  ∃ (α : List Addr) (F : Hp) (S : Sto) (vs : List V) (ds : List D) (T : Sto → Res D), Rel w K mg α F H S ∧ F c' = some (CodeO c' q) ∧ DVs w K mg F α vs ds ∧
    (∀ (α' : List Addr) (F' H' : Hp) (S' : Sto) (Q' : VK) (E : XK), Rel w K mg α' F' H' S' → DVs w K mg F' α' vs ds → wp w K mg α' F' H' (relD w K mg) (T S') Q' E → tl E H' Q') ∧
    wp w K mg α F H (relD w K mg) (mT (.lam f c' q vs ds) T S) Q (fun _ _ _ => False)
section
variable {X : Cx} {W : WX}
theorem pd_thk {Z : Cx} {e : Expr} {f c' : Addr} {q : Str} {vs : List V} {ds : List D} {T : Sto → Res D} {tl : XK → Hp → VK → Prop}
    (act : PE Z e (fun σZ HZ Q => σZ[0]? = some (some (.ref f)) ∧ HZ c' = some (CodeO c' q) ∧ tl (fun cls d H => W cls d σZ H) HZ Q))
    (snd : ∀ (α' : List Addr) (F' H' : Hp) (S' : Sto) (Q' : VK) (E : XK), Rel Z.w Z.K Z.mg α' F' H' S' → DVs Z.w Z.K Z.mg F' α' vs ds → wp Z.w Z.K Z.mg α' F' H' (relD Z.w Z.K Z.mg) (T S') Q' E → tl E H' Q') : PD Z W e (rThk (.lam f c' q vs ds) T) := by
  refine ⟨_, act, fun α F σ H δ S Q hr hs h => ?_⟩
  unfold rThk at h
  split at h
  · rename_i h0
    obtain ⟨v, e1, dv⟩ := hs.2 0 _ h0
    cases dv with
    | lam hc hv => exact ⟨e1, hr.sub _ _ hc, snd α F H S Q _ hr hv h⟩
  · exact h.elim
theorem gives_of {Ng : List Str} {x a q : Str} {sg : Scope} {g : Addr} {cdg : Value} {bg : List Stmt} {bodyR : D → (Sto → Res D) → RS}
    (hbody : ∀ (s : Shared) (H : Hp) (d0 : D) (T : Sto → Res D), (∀ (W : WX) (pn : List (Addr × Obj)) (xe : Value → Shared → Prop) (p1 p2 : Pos), Takes ((cxOf C8.CX0 X.prog X.w X.K X.mg X.base Ng x sg g cdg X.A X.stack s H C8.E0).tr pn xe) W →
      PD ((cxOf C8.CX0 X.prog X.w X.K X.mg X.base Ng x sg g cdg X.A X.stack s H C8.E0).tr pn xe) W (.Call (.Name a p1) [] [] p2) (rThk d0 T)) →
      PSds (cxOf C8.CX0 X.prog X.w X.K X.mg X.base Ng x sg g cdg X.A X.stack s H C8.E0).nox (fun _ _ _ _ => False) bg (bodyR d0 T)) :
    Gives3 X Ng x sg g cdg bg a q (TTd X.w X.K X.mg q fun d0 T => mDef Ng.length (bodyR d0 T) [d0]) := by
  rintro f c' s H Q tl act hc ⟨α, F, S, vs, ds, T, h1, h2, h3, h4, h5⟩
  obtain ⟨t, pt, st⟩ := (hbody s H (.lam f c' q vs ds) T fun W pn xe p1 p2 tk => pd_thk (act W pn xe p1 p2 tk) h4).ex
  refine ⟨t, pt, st α F _ H _ S _ h1 (slots_start (ds := [.lam f c' q vs ds]) (.cons (.lam h2 h3) .nil)) ?_⟩
  exact wpS_of_def (ds := [.lam f c' q vs ds]) h1 h5
end
open Classical in
/-- x(lambda: e): k where the store holds the table, cap what e captures, rb what e tells, mT what x makes of it -/
noncomputable def rLam (k : Nat) (P : Addr) (q : Str) (cap : List Nat) (rb : RE) (mT : D → (Sto → Res D) → Sto → Res D) : RE := fun δ S =>
  if S[k]? = some (.lam P 0 q [] []) then (match capD δ cap with
    | some ds => if h : ∃ r : D × Sto, ∀ (f c' : Addr) (vs : List V), mT (.lam f c' q vs ds) (fun S1 => rb (mkSl δ.length cap ds) S1) S = .ok r.1 r.2 then .ok (Classical.choose h).1 (Classical.choose h).2 else .stuck
    | none => .stuck) else .stuck
theorem rLam_ok {k : Nat} {P : Addr} {q : Str} {cap : List Nat} {rb : RE} {mT : D → (Sto → Res D) → Sto → Res D} {δ : Sl} {S S' : Sto} {ds : List D} {d : D} (h1 : S[k]? = some (.lam P 0 q [] [])) (h2 : capD δ cap = some ds)
    (h : ∀ (f c' : Addr) (vs : List V), mT (.lam f c' q vs ds) (fun S1 => rb (mkSl δ.length cap ds) S1) S = .ok d S') : rLam k P q cap rb mT δ S = .ok d S' := by
  unfold rLam
  rw [if_pos h1, h2]
  dsimp only
  have ex : ∃ r : D × Sto, ∀ (f c' : Addr) (vs : List V), mT (.lam f c' q vs ds) (fun S1 => rb (mkSl δ.length cap ds) S1) S = .ok r.1 r.2 := ⟨(d, S'), h⟩
  rw [dif_pos ex]
  exact ((Classical.choose_spec ex 0 0 []).symm.trans (h 0 0 []))
section
variable {X : Cx} {W : WX}
theorem pd_lam {x a : Str} {g c P : Addr} {k j : Nat} {cap : List Nat} {rb : RE} {mT : D → (Sto → Res D) → Sto → Res D} {pg : Arguments} {bg : List Stmt} {sg : Scope} {dV kV doc pm cdv ct oc : Value} {an od : Option Addr} {osl : Array (Option Value)} {Ng : List Str}
    {params : Arguments} {body : Expr} {scope : Scope} {p lpos pos : Pos} (hg : Gl X x) (hm : X.mg x = some (.ref g)) (hk : PySem.W.keepIn X.K (.ref g) = true)
    (lk : X.K.lookup g = some ⟨oc, od, .func (PySem.W.fnOf x x pg bg sg dV kV doc pm an cdv ct), osl⟩) (hcg : PySem.W.codeIn X.K cdv x = true) (hb : L2.Binds X.K (PySem.W.fnOf x x pg bg sg dV kV doc pm an cdv ct) [a] []) (Sg : FnScope Ng [a] sg) (hNg : Ng[0]? = some a) (hva : Vis sg a)
    (hG : Gives3 X Ng x sg g cdv bg a (X.env.qual ++ "<lambda>") (TTd X.w X.K X.mg (X.env.qual ++ "<lambda>") mT))
    (TB : TabB X.base X.mg c P) (hcode : X.env.code = .ref c) (hr : Room (k + 2) X.A) (L : LamS X.env.scope scope) (hdef : defaultsOf params X.env = ([], []))
    (hbind : ∀ (q : Str) (cl : List (Str × Addr)) (pm cv ctv : Value), bindArgs (PySem.W.kla_fn "<lambda>" q params body scope cl pm cv ctv) ⟨[], []⟩ = pure [])
    (hbody : ∀ (A : Around) (outer : List Env) (s : Shared) (H : Hp) (E : XK) (f c' : Addr), A.guards = X.A.guards → Room k (A.deeper (lamEnv X scope s.heap.objs.size f c')) → PD (lamCx X A outer s H E scope f c') (fun cls d _ H => E cls d H) body rb)
    (hdb : (x == ("__debug__" : Str)) = false := by decide) (hd : (a == ("__debug__" : Str)) = false := by decide) (hcd : (a == ("__classdict__" : Str)) = false := by decide) :
    PD X W (.Call (.Name x p) [.Lambda params body scope lpos] [] pos) (rLam j P (X.env.qual ++ "<lambda>") cap rb mT) := by
  refine ⟨_, pe_lamcall3 (t := fun E => tmE X.w X.K X.mg (fun cls d _ H => E cls d H) rb) hg hm hk lk hcg hb Sg hNg hva hG TB hcode hr L hdef hbind (fun A outer s H E f c' hg2 hr2 => (hbody A outer s H E f c' hg2 hr2).canon) hdb hd hcd, fun α F σ H δ S Q hr hs h => ?_⟩
  generalize X.env.qual ++ "<lambda>" = q at h ⊢
  unfold rLam at h
  split at h
  · rename_i h0
    split at h
    · rename_i ds ed
      split at h
      · rename_i ex
        obtain ⟨vs, c1, c2⟩ := cap_vals hs ed
        have hj : j < α.length := by rw [hr.len]; exact (List.getElem?_eq_some_iff.mp h0).1
        have g0 : α[j]? = some α[j] := List.getElem?_eq_getElem hj
        obtain ⟨own, op⟩ := hr.own j _ _ g0 h0
        obtain ⟨eP, ps, hP, ht, ha⟩ := own
        rw [eP] at hP g0
        have snd : ∀ (α' : List Addr) (F' H' : Hp) (S' : Sto) (Q' : VK) (E : XK), Rel X.w X.K X.mg α' F' H' S' → DVs X.w X.K X.mg F' α' vs ds → wp X.w X.K X.mg α' F' H' (relD X.w X.K X.mg) (rb (mkSl δ.length cap ds) S') Q' E → tmE X.w X.K X.mg (fun cls d _ H => E cls d H) rb σ H' Q' := fun α' F' H' S' Q' E r1 r2 r3 => ⟨α', F', mkSl δ.length cap ds, S', r1, by rw [← hs.1]; exact slots_cap c1 r2, r3⟩
        refine ⟨ps, hP, ⟨ht, fun pos cv hc => (ha pos cv hc).imp fun c hc => ⟨hc.1, hr.sub _ _ hc.2⟩⟩, fun f c' H1 md hfn => ?_⟩
        have er := Classical.choose_spec ex f c' vs
        rcases md with ⟨rfl, hc, pos, hpos⟩ | ⟨ps', nC, cP, rfl, t1, t2⟩
        · obtain ⟨c0, e0, hF⟩ := ha pos _ hpos
          cases e0
          refine ⟨α, F, S, vs, ds, _, hr, hF, c2, snd, ?_⟩
          rw [er]
          exact h
        · obtain ⟨r1, s1⟩ := hr.newF (o := CodeO c' q) nC
          have an : α ++ [] = α := List.append_nil α
          rw [an] at r1
          have own1 : Own X.w X.K X.mg (upd F c' (CodeO c' q)) α (upd (upd H c' (CodeO c' q)) P (.tbl ps')) P (.lam P 0 q [] []) := by
            refine ⟨rfl, ps', upd_same, t1, fun pos cv hc => ?_⟩
            rcases t2 pos cv hc with z | ⟨pos', z⟩
            · exact ⟨c', z, upd_same⟩
            · obtain ⟨c0, e0, hF⟩ := ha pos' cv z
              exact ⟨c0, e0, s1.sub _ _ hF⟩
          obtain ⟨r2, s2⟩ := r1.setO (o := .tbl ps') (d := .lam P 0 q [] []) g0 h0 rfl own1
          have eS : S.set j (.lam P 0 q [] []) = S := by
            obtain ⟨hjl, e⟩ := List.getElem?_eq_some_iff.mp h0
            rw [← e]
            exact List.set_getElem_self hjl
          have eH : upd (upd H P (.tbl ps')) c' (CodeO c' q) = upd (upd H c' (CodeO c' q)) P (.tbl ps') := by
            funext b
            by_cases b1 : b = c'
            · subst b1
              rw [upd_same, upd_ne cP, upd_same]
            · by_cases b2 : b = P
              · subst b2
                rw [upd_ne b1, upd_same, upd_same]
              · rw [upd_ne b1, upd_ne b2, upd_ne b2, upd_ne b1]
          rw [eS] at r2
          rw [eH]
          have st := s1.trans (by rw [an]; exact s2)
          refine ⟨α ++ [] , upd F c' (CodeO c' q), S, vs, ds, _, r2, upd_same, c2.mono s1.sub, snd, ?_⟩
          rw [er]
          exact wp.step (by simpa using st) h
      · exact h.elim
    · exact h.elim
  · exact h.elim
end
end DL
set_option Elab.async false
set_option linter.all false
set_option maxRecDepth 100000
set_option maxHeartbeats 4000000
set_option autoImplicit false
/-! Data layer: the law's call, with tables of code objects. -/
namespace DL
open PySem PySem.Spec PyProof.Rows L2 LamX
section
variable {P : Program} {w : World} {K : Fg} {mg mb : Str → Option Value} {k : Nat} {fa a : Addr} {x : Str} {m : Mir} {S1 : Shared} {us : List Value} {ns : List Int} {H : Hp} {cs : List (Addr × Addr)} {qs : List Str}
abbrev tbs (cs : List (Addr × Addr)) : List Addr := cs.map (·.2)
def cells (cs : List (Addr × Addr)) (qs : List Str) : Sto := (cs.zip qs).map fun p => .lam p.1.2 0 p.2 [] []
structure LoneT (K : Fg) (H : Hp) (a : Addr) (cs : List (Addr × Addr)) : Prop where
  at_ : ∀ b, H b ≠ none → b = a ∨ b ∈ tbs cs
  notK : ∀ b, H b ≠ none → K.lookup b = none
  frz : ∀ b u, b ∉ tbs cs → H b = some u → ∃ o xs, u = .frz o (.lst xs)
  tb : ∀ b, b ∈ tbs cs → H b = some (.tbl #[])
  nd : (tbs cs).Nodup
abbrev tbObj : Obj := { cls := .none, data := .fields #[] }
theorem LoneT.free (L : LoneT K H a cs) (ha : S1.heap.get? a = some (lsObj us)) (hT : ∀ b ∈ tbs cs, S1.heap.get? b = some tbObj) {b : Addr} {o : Obj} (g : S1.heap.get? b = some o) (h1 : ∀ vs n, o.data ≠ .seq vs n) (h2 : o.data ≠ .fields #[]) : (hidT S1.heap H).get? b = some o := hidT_get g (by
  cases q : H b with
  | none => rfl
  | some u =>
    rcases L.at_ b (by rw [q]; simp) with z | z
    · rw [z, ha] at g; cases g; exact (h1 _ _ rfl).elim
    · rw [hT b z] at g; cases g; exact (h2 rfl).elim)
theorem LoneT.space (L : LoneT K H a cs) (ha : S1.heap.get? a = some (lsObj us)) (hT : ∀ b ∈ tbs cs, S1.heap.get? b = some tbObj) {b : Addr} {f : Str → Option Value} (h : S1.heap.Ns b f) : (hidT S1.heap H).Ns b f := by
  obtain ⟨o, es, ep, g, d, r⟩ := h
  exact ⟨o, es, ep, L.free ha hT g (fun vs n z => by rw [d] at z; cases z) (fun z => by rw [d] at z; cases z), d, r⟩
theorem LoneT.frag (L : LoneT K H a cs) (KX : K.In S1.heap) : K.In (hidT S1.heap H) := fun b o e => hidT_get (KX b o e) (by
  cases q : H b with
  | none => rfl
  | some u => exact absurd ((L.notK b (by rw [q]; simp)).symm.trans e) (by simp))
theorem LoneT.tabB (L : LoneT K H a cs) (ha : S1.heap.get? a = some (lsObj us)) (hT : ∀ b ∈ tbs cs, S1.heap.get? b = some tbObj) (n1 : S1.heap.Ns mainGlobals mg) (C : ∀ p ∈ cs, PySem.W.CodeHd S1.heap p.1 p.2)
    (hbm : ∃ (bm : Addr) (ob : Obj), mg "__builtins__" = some (.ref bm) ∧ bm ≠ builtinsNs ∧ S1.heap.get? bm = some ob ∧ ob.cls = .type "module" ∧ ob.dict = some builtinsNs ∧ ob.data = .plain) : ∀ p ∈ cs, TabB (hidT S1.heap H) mg p.1 p.2 := fun p hp => by
  have hTp := hT p.2 (List.mem_map_of_mem hp)
  refine ⟨?_, ?_, fun z => ?_⟩
  · obtain ⟨o, vs, file, tf, flags, tg, inF, text, tt, e1, r1, r2, r3, r4, r5, r6, r7, r8, hne⟩ := C p hp
    refine ⟨o, vs, file, tf, flags, tg, inF, text, tt, L.free ha hT e1 (fun vs n z => ?_) (fun z => ?_), r1, r2, r3, r4, r5, r6, r7, r8, hne⟩
    · rw [r2] at z; cases z
    · rw [r2] at z; cases z; simp at r3
  · obtain ⟨bm, ob, b1, b2, b3, b4, b5, b6⟩ := hbm
    have nG : bm ≠ mainGlobals := fun q => by
      obtain ⟨o, es, ep, e, hd, _⟩ := n1
      rw [q, e] at b3; cases b3; rw [hd] at b6; cases b6
    have nP : bm ≠ p.2 := fun q => by rw [q, hTp] at b3; cases b3; cases b6
    exact ⟨bm, ob, b1, b2, nG, nP, L.free ha hT b3 (fun vs n z => by rw [b6] at z; cases z) (fun z => by rw [b6] at z; cases z), b4, b5, b6⟩
  · obtain ⟨o, es, ep, e, hd, _⟩ := n1
    rw [z, hTp] at e; cases e; cases hd
/-- what stands for good at the beginning: all but the tables -/
def offT (H : Hp) (cs : List (Addr × Addr)) : Hp := fun b => if b ∈ tbs cs then none else H b
theorem rel_start (L : LoneT K H a cs) (hq : qs.length = cs.length) : Rel w K mg (tbs cs) (offT H cs) H (cells cs qs) := by
  refine ⟨fun b o e => ?_, by unfold cells; simp [hq], L.nd, fun b hb => ⟨_, L.tb b hb⟩, fun j b d h1 h2 => ?_⟩
  · unfold offT at e
    split at e
    · cases e
    · exact e
  · have hb : b ∈ tbs cs := List.mem_of_getElem? h1
    refine ⟨?_, fun _ => by unfold offT; rw [if_pos hb]⟩
    unfold cells at h2
    rw [List.getElem?_map] at h2
    rw [List.getElem?_map] at h1
    obtain ⟨c, hc, rfl⟩ := Option.map_eq_some_iff.mp h1
    obtain ⟨z, hz, rfl⟩ := Option.map_eq_some_iff.mp h2
    have e : z.1 = c := by
      have := (List.getElem?_zip_eq_some.mp hz).1
      rw [hc] at this; exact (Option.some.inj this).symm
    rw [e]
    exact ⟨rfl, #[], L.tb _ hb, True.intro, fun pos cv h => by simp [codeAmong] at h⟩
theorem law_tabs (L : LoneT K H a cs) (KX : K.In S1.heap) (n1 : S1.heap.Ns mainGlobals mg) (n2 : S1.heap.Ns builtinsNs mb) (nb : ∀ y : Str, y ≠ "__name__" → mb y = bootBuiltins y) (n3 : S1.heap.NoLimit)
    (g0 : S1.gens = #[]) (ha : S1.heap.get? a = some (lsObj us)) (hT : ∀ b ∈ tbs cs, S1.heap.get? b = some tbObj) (C : ∀ p ∈ cs, PySem.W.CodeHd S1.heap p.1 p.2)
    (hbm : ∃ (bm : Addr) (ob : Obj), mg "__builtins__" = some (.ref bm) ∧ bm ≠ builtinsNs ∧ S1.heap.get? bm = some ob ∧ ob.cls = .type "module" ∧ ob.dict = some builtinsNs ∧ ob.data = .plain)
    (hok : HOk P w H S1.heap) (hS : SqL K (offT H cs) a (ns.map V.int)) (room : Room k callerA) (hq : qs.length = cs.length)
    (F : ∀ base : Heap, K.In base → base.Ns mainGlobals mg → (∀ p ∈ cs, TabB base mg p.1 p.2) → Fn P w K mg base x 1 k m) (bd : mg x = some (.ref fa))
    (hm : ∃ S, m [.lst (ns.map .int)] (cells cs qs) = .ok (.bl true) S) : codeAny (model P w) callerA (.call (.ref fa) ⟨[.ref a], []⟩) (Ended S1.heap S1.os) S1 := by
  obtain ⟨c, i1, i2⟩ := n3
  have M : Mod K mg (hidT S1.heap H) := ⟨L.frag KX, L.space ha hT n1, ⟨mb, L.space ha hT n2, nb⟩, ⟨c, L.space ha hT i1, i2⟩⟩
  have e0 : Env0 P w K mg (hidT S1.heap H) callerA [] S1 H := ⟨rfl, M, fun _ _ e => of_hidT e, Nat.le_of_eq (hidT_size _ _), trivial, fun _ q => (nomatch q), hok, .of_eq g0⟩
  have sp : spD w K mg 1 m [V.ref a] H (fun v _ => v = .bl true) (fun _ _ _ => False) := by
    refine ⟨rfl, tbs cs, offT H cs, cells cs qs, [.lst (ns.map .int)], rel_start L hq, .cons (.lst hS (DVs.of_ints ns)) .nil, ?_⟩
    obtain ⟨S, e⟩ := hm
    rw [e]
    intro b H' β F' _ _ hv
    cases hv
    rfl
  obtain ⟨f', fd, ps, q1, _, q2, q3⟩ := (F _ M.kin (L.space ha hT n1) (L.tabB ha hT n1 C hbm)).ex
  obtain rfl : f' = fa := by rw [q1] at bd; cases bd; rfl
  have bt : BindsTo S1 fd ⟨[.ref a], []⟩ (ps.zip [.ref a]) := q2 S1 [.ref a] KX (q3.len _ _ _ _ sp)
  refine codeAny_mono (q3.run callerA [] S1 H ⟨[.ref a], []⟩ [.ref a] [V.ref a] (fun v _ => v = .bl true) _ room rfl e0 bt (.cons rfl .nil) sp) fun r z q => ?_
  match r, q with
  | .error _, ⟨_, _, _, _, _, _, _, _, _, _, _, q⟩ => exact q.2.elim
  | .ok (.ret u), ⟨v, H', os, bare, un, hok', r', q⟩ =>
    have q : v = .bl true := q
    subst q
    have r' : u = Value.bool true := r'
    subst r'
    have key : ∀ b o, b ∉ tbs cs → S1.heap.get? b = some o → z.heap.get? b = some o := fun b o nb e => by
      by_cases z : H b = none
      · exact un.keep b o e z (fun y => nomatch y) (fun y => nomatch y)
      · obtain ⟨y, hy⟩ : ∃ y, H b = some y := by
          cases q : H b with
          | none => exact absurd q z
          | some y => exact ⟨y, rfl⟩
        obtain ⟨ob, xs, rfl⟩ := L.frz b y nb hy
        have o1 := (hok b _ hy).1
        have o2 := (hok' b _ (un.frzs b ob _ hy)).1
        rw [e] at o1
        exact o2.trans o1.symm
    have grown : ∀ b ∈ tbs cs, ∃ more : Array Value, z.heap.get? b = some { cls := .none, data := .fields more } := fun b hb => by
      obtain ⟨more, y⟩ := un.tbls b #[] (L.tb b hb)
      exact ⟨_, hok' b _ y⟩
    refine ⟨rfl, ⟨fun b o e => ?_, fun b o e => ?_⟩, os, bare⟩
    · by_cases hb : b ∈ tbs cs
      · obtain ⟨p, hp, rfl⟩ := List.mem_map.mp hb
        obtain ⟨more, hmm⟩ := grown _ hb
        rw [hT _ hb] at e
        cases e
        exact .inr (.inl ⟨((C p hp).tab (hT _ hb)).isCodeTable, rfl, #[], more, rfl, by rw [Array.empty_append]; exact hmm⟩)
      · exact .inl (key b o hb e)
    · by_cases hb : b ∈ tbs cs
      · obtain ⟨more, hmm⟩ := grown _ hb
        exact ⟨_, hmm⟩
      · exact ⟨o, key b o hb e⟩
  | .ok .next, q => exact q.elim
  | .ok .brk, q => exact q.elim
  | .ok .cont, q => exact q.elim
theorem law_mirT (KX : K.In S1.heap) (n1 : S1.heap.Ns mainGlobals mg) (n2 : S1.heap.Ns builtinsNs mb) (nb : ∀ y : Str, y ≠ "__name__" → mb y = bootBuiltins y) (n3 : S1.heap.NoLimit) (g0 : S1.gens = #[]) (ha : S1.heap.get? a = some (lsObj us))
    (hT : ∀ b ∈ tbs cs, S1.heap.get? b = some tbObj) (nT : ∀ b ∈ tbs cs, K.lookup b = none) (nd : (tbs cs).Nodup) (C : ∀ p ∈ cs, PySem.W.CodeHd S1.heap p.1 p.2)
    (hbm : ∃ (bm : Addr) (ob : Obj), mg "__builtins__" = some (.ref bm) ∧ bm ≠ builtinsNs ∧ S1.heap.get? bm = some ob ∧ ob.cls = .type "module" ∧ ob.dict = some builtinsNs ∧ ob.data = .plain)
    (hi : IntsAre us ns) (hl : ns.length ≤ sizeLine) (room : Room k callerA) (hq : qs.length = cs.length) (F : ∀ base : Heap, K.In base → base.Ns mainGlobals mg → (∀ p ∈ cs, TabB base mg p.1 p.2) → Fn P w K mg base x 1 k m) (bd : mg x = some (.ref fa))
    (hm : ∃ S, m [.lst (ns.map .int)] (cells cs qs) = .ok (.bl true) S) : codeAny (model P w) callerA (.call (.ref fa) ⟨[.ref a], []⟩) (Ended S1.heap S1.os) S1 := by
  have rv := vals_ints hi
  have aT : a ∉ tbs cs := fun z => by
    have q := hT a z
    rw [ha] at q
    have q2 : Data.seq us.toArray _ = Data.fields #[] := congrArg Obj.data (Option.some.inj q)
    cases q2
  obtain ⟨T0, hT0⟩ : ∃ T0 : Hp, T0 = fun b => if b ∈ tbs cs then some (.tbl #[]) else none := ⟨_, rfl⟩
  have t1 : ∀ b, b ∈ tbs cs → T0 b = some (.tbl #[]) := fun b hb => by rw [hT0]; exact if_pos hb
  have t2 : ∀ b, b ∉ tbs cs → T0 b = none := fun b hb => by rw [hT0]; exact if_neg hb
  cases hk : K.lookup a with
  | some o =>
    have e := (KX a o hk).symm.trans ha
    cases e
    refine law_tabs (H := T0) (qs := qs) ⟨fun b q => ?_, fun b q => ?_, fun b u hb q => ?_, t1, nd⟩ KX n1 n2 nb n3 g0 ha hT C hbm (fun b u q => ?_)
      (.inr ⟨_, us.toArray, _, hk, rfl, rfl, rfl, by rw [List.size_toArray, hi.length]; exact hl, by simpa using rv⟩) room hq F bd hm
    · by_cases hb : b ∈ tbs cs
      · exact .inr hb
      · exact absurd (t2 b hb) q
    · by_cases hb : b ∈ tbs cs
      · exact nT b hb
      · exact absurd (t2 b hb) q
    · rw [t2 b hb] at q; cases q
    · by_cases hb : b ∈ tbs cs
      · rw [t1 b hb] at q
        cases q
        exact hT b hb
      · rw [t2 b hb] at q; cases q
  | none =>
    have u1 : ∀ b, b ≠ a → upd T0 a (.frz (lsObj us) (.lst (ns.map V.int))) b = T0 b := fun b hb => upd_ne hb
    refine law_tabs (H := upd T0 a (.frz (lsObj us) (.lst (ns.map V.int)))) (qs := qs) ⟨fun b q => ?_, fun b q => ?_, fun b u hb q => ?_, fun b hb => ?_, nd⟩ KX n1 n2 nb n3 g0 ha hT C hbm (fun b u q => ?_) (.inl (.inr ⟨lsObj us, ?_⟩)) room hq F bd hm
    · by_cases z : b = a
      · exact .inl z
      · rw [u1 b z] at q
        by_cases hb : b ∈ tbs cs
        · exact .inr hb
        · exact absurd (t2 b hb) q
    · by_cases z : b = a
      · rw [z]; exact hk
      · rw [u1 b z] at q
        by_cases hb : b ∈ tbs cs
        · exact nT b hb
        · exact absurd (t2 b hb) q
    · by_cases z : b = a
      · subst z; rw [upd_same] at q; cases q; exact ⟨_, _, rfl⟩
      · rw [u1 b z, t2 b hb] at q; cases q
    · have z : b ≠ a := fun z => aT (z ▸ hb)
      rw [u1 b z]; exact t1 b hb
    · by_cases z : b = a
      · subst z; rw [upd_same] at q; cases q
        exact ⟨ha, by rw [List.length_map]; exact hl, us, _, rv, ha⟩
      · rw [u1 b z] at q
        by_cases hb : b ∈ tbs cs
        · rw [t1 b hb] at q
          cases q
          exact hT b hb
        · rw [t2 b hb] at q; cases q
    · show offT _ cs a = _
      unfold offT
      rw [if_neg aT, upd_same]
end
/-- a law's end with tables: what is given by the head, the mirror's answer -/
theorem walkT {l : PySem.W.OpenLaw} {n k : Nat} {q : Program} {loose : List Str} {XP : (Str → Option Value) → Heap → Prop} {YP : World → Heap → Prop} {d : DefRec} {qs : List Str} {m : List Addr → Mir} (hn : l.most = some n) (hs : n ≤ sizeLine) (hd : d.params.defaults = []) (hr : Room k callerA)
    (F : ∀ (w : World) (mg : Str → Option Value) (h : Heap), YP w h → h.Ns mainGlobals mg → ∃ (K : Fg) (cs : List (Addr × Addr)), K.In h ∧ qs.length = cs.length ∧ (∀ b ∈ tbs cs, h.get? b = some tbObj) ∧ (∀ b ∈ tbs cs, K.lookup b = none) ∧ (tbs cs).Nodup ∧ (∀ p ∈ cs, PySem.W.CodeHd h p.1 p.2) ∧
      ∀ base : Heap, K.In base → base.Ns mainGlobals mg → (∀ p ∈ cs, TabB base mg p.1 p.2) → Fn l.prog w K mg base d.name 1 k (m (tbs cs)))
    (hm : ∀ (cs : List (Addr × Addr)) (ns : List Int), qs.length = cs.length → ns.length ≤ n → ∃ S, m (tbs cs) [.lst (ns.map .int)] (cells cs qs) = .ok (.bl true) S) : PySem.W.WalkO q loose XP YP l.row.toRowW d [] (fun f vs => PySem.call f vs) :=
  Att.attach_call hn hd fun w _ z mg mb fa _ _ _ _ a us ns G Y _ _ _ hmg ha hi hl hg => by
    obtain ⟨K, cs, KX, hq, hT, nT, nd, C, hF⟩ := F w mg _ Y G.T.g
    exact law_mirT KX G.T.g G.T.b G.T.builtins G.T.nolimit hg ha hT nT nd C G.T.bmain hi (Nat.le_trans hl hs) hr hq hF hmg (hm cs ns hq hl)
end DL
set_option Elab.async false
set_option linter.all false
set_option maxRecDepth 100000
set_option maxHeartbeats 4000000
set_option autoImplicit false
/-! Data layer: what the derivations of a lambda's body and of the def that calls it are given. -/
namespace DL
open PySem PySem.Spec PyProof.Rows L2 LamX
theorem env_lam {X : Cx} {A : Around} {outer : List Env} {s : Shared} {H : Hp} {E : XK} {scope : Scope} {f c' : Addr} {k : Nat} (hr : Room k (A.deeper (lamEnv X scope s.heap.objs.size f c'))) (hX : X.A.guards = some []) (hg : A.guards = X.A.guards) :
    Env1 (lamCx X A outer s H E scope f c') k ∧ Takes (lamCx X A outer s H E scope f c') (fun cls d _ H => E cls d H) := ⟨⟨hr, hg.trans hX, passes_of rfl⟩, takes_of rfl rfl rfl rfl⟩
theorem env_nox {P : Program} {w : World} {K : Fg} {mg : Str → Option Value} {base : Heap} {N : List Str} {q : Str} {sc : Scope} {f : Addr} {cdv : Value} {A : Around} {outer : List Env} {s : Shared} {H : Hp} {k : Nat}
    (hr : Room k (A.deeper (envOfC q sc s.heap.objs.size f cdv))) (hX : A.guards = some []) :
    Env1 (cxOf C8.CX0 P w K mg base N q sc f cdv A outer s H C8.E0).nox k ∧ Takes (cxOf C8.CX0 P w K mg base N q sc f cdv A outer s H C8.E0).nox (fun _ _ _ _ => False) := ⟨⟨hr, hX, PassesOwn.never⟩, LamX.takes0⟩
end DL
set_option Elab.async false
set_option linter.all false
set_option maxRecDepth 100000
set_option maxHeartbeats 1000000
set_option autoImplicit false
/-! Results that may be refusals: plain. -/
namespace DL
open PySem L2
abbrev EP := Str → List (Str × D) → Sto → Prop
def Res.pe {A : Type} (r : Res A) (Q : A → Sto → Prop) (P : EP) : Prop := match r with
  | .ok a S => Q a S
  | .err c fs S => P c fs S
  | .stuck => False
def Out.pe (o : Out) (N : Sl → Sto → Prop) (T : D → Sto → Prop) (P : EP) : Prop := match o with
  | .nx δ S => N δ S
  | .rt d S => T d S
  | .err c fs _ S => P c fs S
  | _ => False
section
variable {A B : Type} {δ : Sl} {S : Sto} {Q : A → Sto → Prop} {QD : D → Sto → Prop} {QL : List D → Sto → Prop} {N : Sl → Sto → Prop} {T : D → Sto → Prop} {P : EP}
theorem Res.post.pe {r : Res A} (h : r.post Q) : r.pe Q P := by
  cases r with
  | ok a S => exact h
  | err c fs S => exact h.elim
  | stuck => exact h.elim
theorem Out.post.pe {o : Out} (h : o.post N T NoS NoS) : o.pe N T P := by
  cases o with
  | nx δ S => exact h
  | rt d S => exact h
  | bk δ S => exact h.elim
  | ct δ S => exact h.elim
  | err c fs δ S => exact h.elim
  | stuck => exact h.elim
theorem Res.pe.mono {r : Res A} {Q1 : A → Sto → Prop} {P1 : EP} (h : r.pe Q1 P1) (k : ∀ a S, Q1 a S → Q a S) (k2 : ∀ c fs S, P1 c fs S → P c fs S) : r.pe Q P := by
  cases r with
  | ok a S => exact k _ _ h
  | err c fs S => exact k2 _ _ _ h
  | stuck => exact h.elim
theorem Out.pe.mono {o : Out} {N1 : Sl → Sto → Prop} {T1 : D → Sto → Prop} {P1 : EP} (h : o.pe N1 T1 P1) (k : ∀ δ S, N1 δ S → N δ S) (k1 : ∀ d S, T1 d S → T d S) (k2 : ∀ c fs S, P1 c fs S → P c fs S) : o.pe N T P := by
  cases o with
  | nx δ S => exact k _ _ h
  | rt d S => exact k1 _ _ h
  | bk δ S => exact h.elim
  | ct δ S => exact h.elim
  | err c fs δ S => exact k2 _ _ _ h
  | stuck => exact h.elim
theorem Res.pe.bind {r : Res A} {f : A → Sto → Res B} {Q' : B → Sto → Prop} (h : r.pe (fun a S1 => (f a S1).pe Q' P) P) : (r.bind f).pe Q' P := by
  cases r with
  | ok a S => exact h
  | err c fs S => exact h
  | stuck => exact h.elim
theorem Res.pe.out {r : Res A} {f : A → Sto → Out} (h : r.pe (fun a S1 => (f a S1).pe N T P) P) : (r.out δ f).pe N T P := by
  cases r with
  | ok a S => exact h
  | err c fs S => exact h
  | stuck => exact h.elim
theorem e_seq {a b : RS} (h : (a δ S).pe (fun δ1 S1 => (b δ1 S1).pe N T P) T P) : (sSeq a b δ S).pe N T P := by
  unfold sSeq
  cases q : a δ S with
  | nx δ1 S1 => rw [q] at h; exact h
  | rt d S1 => rw [q] at h; exact h
  | bk δ1 S1 => rw [q] at h; exact h.elim
  | ct δ1 S1 => rw [q] at h; exact h.elim
  | err c fs δ1 S1 => rw [q] at h; exact h
  | stuck => rw [q] at h; exact h.elim
theorem e_if {c : RB} {a b : RS} (h : (c δ S).post fun k S1 => (k = true → (a δ S1).pe N T P) ∧ (k = false → (b δ S1).pe N T P)) : (sIf c a b δ S).pe N T P := Res.pe.out ((h.mono fun k S1 q => by
  cases k with
  | true => exact q.1 rfl
  | false => exact q.2 rfl).pe)
theorem e_next (h : N δ S) : (sNext δ S).pe N T P := h
/-- an assignment that is tried -/
theorem e_tryKeep {e : RE} {g : RG} {cl : List Str} {x : Str} {i : Nat} {hb : RS} {B C : Sl → Sto → Prop} (hg : ∀ d S1 c fs S2, g d δ S1 ≠ .err c fs S2)
    (h : (e δ S).pe (fun d S1 => (g d δ S1).post fun δ1 S2 => N δ1 S2) (fun c fs S1 => c ∈ cl ∧ x ∈ cl ∧ subC c x = true ∧ (hb (δ.set i (some (.exc c (fs.map fun p => (.str p.1, p.2))))) S1).post (fun δ2 S2 => N (δ2.set i none) S2) T NoS NoS)) : (sTryKeep (sAsg e g) cl x i hb δ S).post N T B C := by
  unfold sTryKeep sAsg
  cases q : e δ S with
  | ok d S1 =>
    rw [q] at h
    have h : (g d δ S1).post fun δ1 S2 => N δ1 S2 := h
    cases q2 : g d δ S1 with
    | ok δ1 S2 =>
      rw [q2] at h
      show (match (Res.ok d S1).out δ fun d S1 => (g d δ S1).out δ fun δ1 S2 => Out.nx δ1 S2 with | .err c fs δ1 S1 => _ | o => o).post N T B C
      dsimp only [Res.out]
      rw [q2]
      exact h
    | err c fs S2 => exact absurd q2 (hg _ _ _ _ _)
    | stuck => rw [q2] at h; exact h.elim
  | err c fs S1 =>
    rw [q] at h
    obtain ⟨h1, h2, h3, h4⟩ := h
    dsimp only [Res.out]
    rw [decide_eq_true h1, decide_eq_true h2, h3]
    cases q2 : hb (δ.set i (some (.exc c (fs.map fun p => (.str p.1, p.2))))) S1 with
    | nx δ2 S2 => rw [q2] at h4; exact h4
    | rt d S2 => rw [q2] at h4; exact h4
    | bk δ2 S2 => rw [q2] at h4; exact h4.elim
    | ct δ2 S2 => rw [q2] at h4; exact h4.elim
    | err c2 fs2 δ2 S2 => rw [q2] at h4; exact h4.elim
    | stuck => rw [q2] at h4; exact h4.elim
  | stuck => rw [q] at h; exact h.elim
end
end DL
set_option Elab.async false
set_option linter.all false
set_option maxRecDepth 100000
set_option maxHeartbeats 4000000
set_option autoImplicit false
/-! Data layer: a lambda handed to a def of the text; makers of lambdas; the head's hook with tables. -/
namespace DL
open PySem PySem.Spec PyProof.Rows L2 LamX
/-- the code object of the def x -/
def CodeAt (K : Fg) (mg : Str → Option Value) (x : Str) (c : Addr) : Prop := ∀ (f : Addr) (oc : Value) (od : Option Addr) (fd : FuncData) (osl : Array (Option Value)), mg x = some (.ref f) → K.lookup f = some ⟨oc, od, .func fd, osl⟩ → fd.code = .ref c
/-- the maker of lambdas x: its code object and its table -/
structure Maker (K : Fg) (mg : Str → Option Value) (base : Heap) (x : Str) (p : Addr × Addr) : Prop where
  code : CodeAt K mg x p.1
  tab : TabB base mg p.1 p.2
theorem fn_mkT {P : Program} {w : World} {K : Fg} {mg : Str → Option Value} {base : Heap} {x : Str} {st : Stmt} {N ps : List Str} {k : Nat} {r : RS} {p : Addr × Addr} (Fu : Fd K mg x st ps) (M : Maker K mg base x p) (Sc : FnScope N ps (defScope st))
    (hbody : ∀ (f : Addr) (A : Around) (outer : List Env) (s : Shared) (H : Hp) (E : XK), Env1 (cxOf (L2.CX P w) P w K mg base N x (defScope st) f (.ref p.1) A outer s H E) k → Takes (cxOf (L2.CX P w) P w K mg base N x (defScope st) f (.ref p.1) A outer s H E) (fun cls d _ H => E cls d H) →
      PSds (cxOf (L2.CX P w) P w K mg base N x (defScope st) f (.ref p.1) A outer s H E) (fun cls d _ H => E cls d H) (defBody st) r) : Fn P w K mg base x ps.length (k + 1) (mDef N.length r) := by
  obtain ⟨f, fd, h1, h2, h3⟩ := Fu.ex
  refine ⟨f, fd, ps, h2, h1.kp, h3, ?_⟩
  obtain ⟨oc, od, kV, doc, pm, an, cdv, ct, osl, rfl, lk, hcd⟩ := h1.ex
  have hc : cdv = .ref p.1 := M.code f _ _ _ _ h2 lk
  subst hc
  refine ⟨fun vs H Q E h => h.1, fun A outer s H args us vs Q E room hG e0 hb rv hsp => ?_⟩
  have kin : K.In s.heap := e0.mod.kin.keeps fun b o e => (e0.bs b o e).1
  have names : ∀ y ∈ ps.zip us, (defScope st).names.lookup y.1 = some .local ∨ ((defScope st).names.lookup y.1 = some .cell ∧ ((cellsFrom (s.heap.objs.size + 1) (defScope st).names []).lookup y.1).isSome = true) := fun y hy =>
    (Sc.par y.1 (List.of_mem_zip hy).1).imp id fun q => ⟨q, PySem.W.cellsFrom_some _ _ _ (.inl q)⟩
  have hsp2 := hsp
  obtain ⟨hl, α, F, S, ds, g1, g2, g3⟩ := hsp
  refine codeAny_call_function room.depth (kin _ _ lk) rfl Sc.co Sc.gen rfl (PySem.W.codeRec_of kin hcd) (hb _ _ _ _ (wpAny_newFunctionEnv_cells Sc.kind names fun env he s1 x => ?_))
  subst he
  refine ⟨(e0.mod.nolimit.keeps fun b o e => (e0.bs b o e).1).keeps x.toInCall.keep, codeAny_func ?_⟩
  obtain ⟨t, ht, sd⟩ := (hbody f A outer s H E ⟨room.deeper _, hG, passes_of rfl⟩ (takes_of rfl rfl rfl rfl)).ex
  have hq : t ⟨fun _ H' => Q .non H', Q, fun _ _ => False, fun _ _ => False⟩ (L2.start N vs) H := sd α F _ H _ S _ g1 (slots_start g2) (wpS_of_def g1 g3)
  refine wpAny_mono (ht.run [] s1 (L2.start N vs) H _ (inv_start Sc room.hd e0 hl rv x) hq) ?_ fun _ _ hs => hs
  intro fl s' hs
  cases fl with
  | ret u =>
    obtain ⟨v, _, H', J, r, q⟩ := hs
    exact ⟨v, H', J.os, J.bare, J.base, J.hok, r, q⟩
  | next =>
    obtain ⟨_, H', J, q⟩ := hs
    exact ⟨V.non, H', J.os, J.bare, J.base, J.hok, rfl, q⟩
  | brk => obtain ⟨_, _, _, q⟩ := hs; exact q.elim
  | cont => obtain ⟨_, _, _, q⟩ := hs; exact q.elim
section
variable {X : Cx} {W : WX}
/-- the derivation of the body of the def that is handed a lambda -/
abbrev ThkOf (P : Program) (w : World) (K : Fg) (mg : Str → Option Value) (base : Heap) (x a : Str) (st : Stmt) (N : List Str) (k : Nat) (bodyR : D → (Sto → Res D) → RS) : Prop :=
  ∀ (g : Addr) (cdg : Value) (A : Around) (stk : List Env) (s : Shared) (H : Hp) (d0 : D) (T : Sto → Res D),
    Env1 (cxOf C8.CX0 P w K mg base N x (defScope st) g cdg A stk s H C8.E0).nox k → Takes (cxOf C8.CX0 P w K mg base N x (defScope st) g cdg A stk s H C8.E0).nox (fun _ _ _ _ => False) →
    (∀ (W : WX) (pn : List (Addr × Obj)) (xe : Value → Shared → Prop) (p1 p2 : Pos), Takes ((cxOf C8.CX0 P w K mg base N x (defScope st) g cdg A stk s H C8.E0).tr pn xe) W →
      PD ((cxOf C8.CX0 P w K mg base N x (defScope st) g cdg A stk s H C8.E0).tr pn xe) W (.Call (.Name a p1) [] [] p2) (rThk d0 T)) →
    PSds (cxOf C8.CX0 P w K mg base N x (defScope st) g cdg A stk s H C8.E0).nox (fun _ _ _ _ => False) (defBody st) (bodyR d0 T)
theorem pd_lamF {x a y q : Str} {st : Stmt} {N : List Str} {p0 : Addr × Addr} {k j kB : Nat} {cap : List Nat} {rb : RE} {bodyR : D → (Sto → Res D) → RS} {params : Arguments} {body : Expr} {scope : Scope} {p lpos pos : Pos}
    (B : ThkOf X.prog X.w X.K X.mg X.base x a st N kB bodyR) (Fx : Fd X.K X.mg x st [a]) (Sc : FnScope N [a] (defScope st)) (M : Maker X.K X.mg X.base y p0) (hr : Room (k + 2) X.A) (hgu : X.A.guards = some [])
    (hbody : ∀ (A : Around) (outer : List Env) (s : Shared) (H : Hp) (E : XK) (f c' : Addr), Env1 (lamCx X A outer s H E scope f c') k → Takes (lamCx X A outer s H E scope f c') (fun cls d _ H => E cls d H) → PD (lamCx X A outer s H E scope f c') (fun cls d _ H => E cls d H) body rb)
    (hkB : kB ≤ k + 1 := by decide) (hq : X.env.qual ++ "<lambda>" = q := by first | rfl | decide) (L : LamS X.env.scope scope := by first | exact LamX.lamS_by (by kernel_rfl) | exact LamX.lamS_by (by decide +kernel)) (hcode : X.env.code = .ref p0.1 := by rfl) (hg : Gl X x := by rfl) (hN : N[0]? = some a := by rfl) (hva : Vis (defScope st) a := by first | exact Or.inl rfl | exact Or.inr (Or.inl rfl) | exact Or.inr (Or.inr rfl)) (hdef : defaultsOf params X.env = ([], []) := by rfl)
    (hbind : ∀ (q : Str) (cl : List (Str × Addr)) (pm cv ctv : Value), bindArgs (PySem.W.kla_fn "<lambda>" q params body scope cl pm cv ctv) ⟨[], []⟩ = pure [] := by intros; rfl)
    (hdb : (x == ("__debug__" : Str)) = false := by decide) (hd : (a == ("__debug__" : Str)) = false := by decide) (hcd : (a == ("__classdict__" : Str)) = false := by decide) :
    PD X W (.Call (.Name x p) [.Lambda params body scope lpos] [] pos) (rLam j p0.2 q cap rb fun d0 T => mDef N.length (bodyR d0 T) [d0]) := by
  subst hq
  obtain ⟨g, fd, h1, h2, h3⟩ := Fx.ex
  obtain ⟨oc, od, kV, doc, pm, an, cdv, ct, osl, rfl, lk, hcd2⟩ := h1.ex
  refine pd_lam (k := k) hg h2 h1.kp lk hcd2 h3 Sc hN hva (gives_of fun s H d0 T hthk => ?_) M.tab hcode hr L hdef hbind (fun A outer s H E f c' hg2 hr2 => ?_) hdb hd hcd
  · obtain ⟨e1, t1⟩ := env_nox (P := X.prog) (w := X.w) (K := X.K) (mg := X.mg) (base := X.base) (N := N) (q := x) (sc := defScope st) (f := g) (cdv := cdv) (A := X.A) (outer := X.stack) (s := s) (H := H) (hr.deeper _) hgu
    exact B g cdv X.A X.stack s H d0 T ⟨e1.room.mono hkB, e1.gu, e1.hp⟩ t1 hthk
  · obtain ⟨e1, t1⟩ := env_lam (outer := outer) (s := s) (H := H) (E := E) hr2 hgu hg2
    exact hbody A outer s H E f c' e1 t1
end
theorem tbs_getD (l : List (Addr × Addr)) : (fun j => (tbs l).getD j 0) = fun j => (l.getD j (0, 0)).2 := by
  funext j
  rw [List.getD_eq_getElem?_getD, List.getD_eq_getElem?_getD, List.getElem?_map]
  cases l[j]? <;> rfl
/-! the head's hook with tables -/
def isTab : Option Obj → Bool
  | some ⟨.none, none, .fields ⟨[]⟩, ⟨[]⟩⟩ => true
  | _ => false
theorem isTab_ok {o : Option Obj} (h : isTab o = true) : o = some tbObj := by
  unfold isTab at h
  split at h
  · rfl
  · cases h
def tabL (K : Fg) : List Str → List (Addr × Addr)
  | [] => []
  | x :: r => match PySem.W.tabIn K x with
    | some p => p :: tabL K r
    | none => tabL K r
def tabCk (g : Addr → Option Obj) (K : Fg) (mk : List Str) : Bool :=
  mk.all (fun x => match PySem.W.tabIn K x with
    | some p => PySem.W.codeHdIn K p.1 p.2 && (K.lookup p.2).isNone && isTab (g p.2)
    | none => false) && decide ((tabL K mk).map (·.2)).Nodup
theorem tabL_all {K : Fg} : ∀ {mk : List Str}, (∀ x ∈ mk, ∃ p, PySem.W.tabIn K x = some p) → (tabL K mk).length = mk.length ∧ (∀ p ∈ tabL K mk, ∃ x ∈ mk, PySem.W.tabIn K x = some p) ∧ ∀ (j : Nat) (x : Str), mk[j]? = some x → PySem.W.tabIn K x = some ((tabL K mk).getD j (0, 0))
  | [], _ => ⟨rfl, (fun _ z => nomatch z), fun j x e => by simp at e⟩
  | x :: r, h => by
    obtain ⟨p, e⟩ := h x List.mem_cons_self
    obtain ⟨h1, h2, h3⟩ := tabL_all (mk := r) fun y hy => h y (List.mem_cons_of_mem _ hy)
    have eL : tabL K (x :: r) = p :: tabL K r := by
      show (match PySem.W.tabIn K x with | some p => p :: tabL K r | none => tabL K r) = _
      rw [e]
    rw [eL]
    refine ⟨congrArg (· + 1) h1, fun q hq => ?_, fun j y ej => ?_⟩
    · rcases List.mem_cons.mp hq with rfl | hq
      · exact ⟨x, List.mem_cons_self, e⟩
      · obtain ⟨z, z1, z2⟩ := h2 q hq
        exact ⟨z, List.mem_cons_of_mem _ z1, z2⟩
    · cases j with
      | zero =>
        obtain rfl : x = y := by simpa using ej
        exact e
      | succ j => exact h3 j y (by simpa using ej)
/-- what the check of the tables gives -/
theorem tabs_of {h : Heap} {K : Fg} {mg : Str → Option Value} {mk : List Str} {g : Addr → Option Obj} (KX : K.In h) (G : h.Ns mainGlobals mg) (hg : ∀ a o, g a = some o → h.get? a = some o) (ck : tabCk g K mk = true) :
    (tabL K mk).length = mk.length ∧ (∀ b ∈ tbs (tabL K mk), h.get? b = some tbObj) ∧ (∀ b ∈ tbs (tabL K mk), K.lookup b = none) ∧ (tbs (tabL K mk)).Nodup ∧ (∀ p ∈ tabL K mk, PySem.W.CodeHd h p.1 p.2) ∧
      ∀ (base : Heap), (∀ p ∈ tabL K mk, TabB base mg p.1 p.2) → ∀ (j : Nat) (x : Str), mk[j]? = some x → Maker K mg base x ((tabL K mk).getD j (0, 0)) := by
  unfold tabCk at ck
  rw [Bool.and_eq_true, decide_eq_true_eq, List.all_eq_true] at ck
  have ex : ∀ x ∈ mk, ∃ p, PySem.W.tabIn K x = some p ∧ PySem.W.codeHdIn K p.1 p.2 = true ∧ K.lookup p.2 = none ∧ isTab (g p.2) = true := fun x hx => by
    have q := ck.1 x hx
    split at q
    · rename_i p e
      rw [Bool.and_eq_true, Bool.and_eq_true] at q
      exact ⟨p, e, q.1.1, Option.isNone_iff_eq_none.mp q.1.2, q.2⟩
    · cases q
  obtain ⟨h1, h2, h3⟩ := tabL_all fun x hx => (ex x hx).imp fun p z => z.1
  have al : ∀ p ∈ tabL K mk, PySem.W.codeHdIn K p.1 p.2 = true ∧ K.lookup p.2 = none ∧ isTab (g p.2) = true := fun p hp => by
    obtain ⟨x, hx, e⟩ := h2 p hp
    obtain ⟨p', e', q⟩ := ex x hx
    rw [e] at e'
    cases e'
    exact q
  refine ⟨h1, fun b hb => ?_, fun b hb => ?_, ck.2, fun p hp => PySem.W.codeHd_of_K KX (al p hp).1, fun base tb j x ej => ⟨fun f oc od fd osl hm lk => PySem.W.law_code KX G (h3 j x ej) hm (KX _ _ lk) rfl, ?_⟩⟩
  · obtain ⟨p, hp, rfl⟩ := List.mem_map.mp hb
    exact hg _ _ (isTab_ok (al p hp).2.2)
  · obtain ⟨p, hp, rfl⟩ := List.mem_map.mp hb
    exact (al p hp).2.1
  · refine tb _ ?_
    have hj : j < (tabL K mk).length := by rw [h1]; exact (List.getElem?_eq_some_iff.mp ej).1
    rw [List.getD_eq_getElem?_getD, List.getElem?_eq_getElem hj]
    exact List.getElem_mem hj
end DL
set_option Elab.async false
set_option linter.all false
set_option maxRecDepth 100000
set_option maxHeartbeats 4000000
set_option autoImplicit false
/-! Data layer: the head's hook where classes have methods: what the module's names reach in two steps, and the classes' methods with their code. -/
namespace DL
open PySem PySem.Spec PyProof.Rows L2
def insG (g : Addr → Option Obj) (a : Addr) : List Addr := match g a with
  | some ⟨_, _, .cls cd, _⟩ => (match g cd.ns with
    | some o => He.refsO o ++ (He.refsO o).flatMap fun b => match g b with
      | some ob => He.refsD ob
      | none => []
    | none => [])
  | _ => []
def asC (g : Addr → Option Obj) : List Addr := He.asD g 2 ++ (He.asD g 1).flatMap (insG g)
def frC (g : Addr → Option Obj) : Fg := He.frG g ((asC g ++ [cStatics]).filter fun a => !isTab (g a))
def obsTC (fa : List He.Fa) (fn : List He.DefD) (li : List (Str × D)) (xh : Xh) (mk : List Str) (g : Addr → Option Obj) : Bool × He.AlD := (tabCk g (frC g) mk, obsX fa fn li xh (frC g))
def hookC (fa : List He.Fa) (fn : List He.DefD) (li : List (Str × D)) (xh : Xh) (mk : List Str) : PySem.W.Hook where
  α := Bool × He.AlD
  obs := fun s => obsTC fa fn li xh mk s.heap.get?
  val := fun _ => (true, He.valD fn)
  says := fun _ h => ∃ K : Fg, K.In h ∧ SaysX fa fn li xh K ∧ ∃ g : Addr → Option Obj, (∀ a o, g a = some o → h.get? a = some o) ∧ tabCk g K mk = true
  of := fun _ s e => ⟨_, He.frG_in, congrArg (fun z : Bool × He.AlD => z.2) e, s.heap.get?, fun _ _ z => z, congrArg (fun z : Bool × He.AlD => z.1) e⟩
  keeps := fun _ _ _ ⟨K, hK, c, g, hg, t⟩ k => ⟨K, PySem.W.Frag.In.keeps hK k, c, g, fun a o e => k a o (hg a o e), t⟩
theorem obsTC_eq {fa : List He.Fa} {fn : List He.DefD} {li : List (Str × D)} {xh : Xh} {mk : List Str} {g : Addr → Option Obj} {s : Shared} (h : ∀ a, g a = s.heap.get? a) : obsTC fa fn li xh mk g = (hookC fa fn li xh mk).obs s := by
  have e : g = s.heap.get? := funext h
  rw [e] <;> rfl
/-! without makers of lambdas -/
end DL
set_option Elab.async false
set_option linter.all false
set_option maxRecDepth 100000
set_option maxHeartbeats 4000000
set_option autoImplicit false
/-! Data layer: repr of things that hold dicts. -/
namespace DL
open PySem PySem.Spec PyProof.Rows L2
mutual
inductive RdZ (h : Heap) : Value → PyData → List Addr → Prop
  | none : RdZ h .none .none []
  | bool (b) : RdZ h (.bool b) (.bool b) []
  | int (i t) : RdZ h (.int i t) (.int i) []
  | str (x t) : RdZ h (.str x t) (.str x) []
  | list {a o vs n xs as} : h.get? a = some o → o.cls = .type "list" → o.data = .seq vs n → RdZs h vs.toList xs as → RdZ h (.ref a) (.list xs) (a :: as)
  | tuple {a o vs n xs as} : h.get? a = some o → o.cls = .type "tuple" → o.data = .seq vs n → RdZs h vs.toList xs as → RdZ h (.ref a) (.tuple xs) as
  | dict {a o es n kvs as bs} : h.get? a = some o → o.cls = .type "dict" → o.data = .dict es n → (a == sysModules) = false → RdZs h (es.toList.map (·.key)) (kvs.map (·.1)) as →
      RdZs h (es.toList.map (·.val)) (kvs.map (·.2)) bs → RdZ h (.ref a) (.dict kvs) (a :: as ++ bs)
inductive RdZs (h : Heap) : List Value → List PyData → List Addr → Prop
  | nil : RdZs h [] [] []
  | cons {v vs d ds as bs} : RdZ h v d as → RdZs h vs ds bs → RdZs h (v :: vs) (d :: ds) (as ++ bs)
end
mutual
theorem RdZ.reads {h : Heap} : ∀ {v : Value} {d : PyData} {as : List Addr}, RdZ h v d as → Reads h v d as
  | _, _, _, .none => .none
  | _, _, _, .bool b => .bool b
  | _, _, _, .int i t => .int i t
  | _, _, _, .str x t => .str x t
  | _, _, _, .list h1 h2 h3 h4 => .list h1 h2 h3 h4.reads
  | _, _, _, .tuple h1 h2 h3 h4 => .tuple h1 h2 h3 h4.reads
  | _, _, _, .dict h1 h2 h3 _ h4 h5 => .dict h1 h2 h3 h4.reads h5.reads
theorem RdZs.reads {h : Heap} : ∀ {v : List Value} {d : List PyData} {as : List Addr}, RdZs h v d as → ReadsAll h v d as
  | _, _, _, .nil => .nil
  | _, _, _, .cons a b => .cons a.reads b.reads
end
/-! ### None in a list of Nones and lists -/
end DL
set_option Elab.async false
set_option linter.all false
set_option maxRecDepth 100000
set_option maxHeartbeats 4000000
set_option autoImplicit false
/-! Data layer: the pairs of a dict held by a name while it is walked (for p in d.items()). -/
namespace DL
open PySem PySem.Spec PyProof.Rows L2
/-! ### by data -/
end DL
set_option Elab.async false
set_option linter.all false
set_option maxRecDepth 100000
set_option maxHeartbeats 4000000
set_option autoImplicit false
/-! Data layer: int() of texts of up to 4300 figures (the digits' limit is not turned). -/
namespace DL
open PySem PySem.Spec PyProof.Rows L2
end DL
set_option Elab.async false
set_option linter.all false
set_option maxRecDepth 100000
set_option maxHeartbeats 0
set_option autoImplicit false
namespace DL
open PySem L2
abbrev clX : List Str := ["LoopError", "BadRow", "BadLoop", "Hindered", "BadPaper", "TooGreat", "BadQuestion", "OutOfPlace"]
def b_is_name : RS := (sSeq (sIf (bOr (bNot (bTru (rAs gIsi (rCons (rVar 0) (rCons (rC (.ty "str")) rNil))))) (bNot (bVal (rChain gLeU gLeU (rC (.int 1)) (rAs gLen (rCons (rVar 0) rNil)) (rC (.int 8)))))) (sRet (rC (.bl false))) sNext)
    (sRet (rAs gAll (rCons (rKeep (rLc (rSeq (rVar 0)) (gName 1) [1] bYes (rBin gIn1 (rVar 1) (rC (.str "abcdefghijklmnopqrstuvwxyz"))))) rNil))))
def m_is_name : Mir := mDef 2 b_is_name
def b_is_whole : RS := (sRet (rAnd (rAs gIsi (rCons (rVar 0) (rCons (rC (.ty "int")) rNil))) (rNot (rAs gIsi (rCons (rVar 0) (rCons (rC (.ty "bool")) rNil))))))
def m_is_whole : Mir := mDef 1 b_is_whole
def b_is_among : RS := (sRet (rAnd (rCall m_is_whole (rCons (rVar 0) rNil)) (rChain gLeU gLeU (rVar 1) (rVar 0) (rVar 2))))
def m_is_among : Mir := mDef 3 b_is_among
def b_mono_degree : RS := (sRet (rAs gSum (rCons (rKeep (rLc (rSeq (rVar 0)) (gTup (gCons (gName 1) (gCons (gName 2) gNil))) [1, 2] bYes (rVar 2))) rNil)))
def m_mono_degree : Mir := mDef 3 b_mono_degree
def b_is_mono : RS := (sSeq (sIf (bNot (bTru (rAs gIsi (rCons (rVar 0) (rCons (rC (.ty "tuple")) rNil))))) (sRet (rC (.bl false))) sNext)
    (sSeq (sFor (rSeq (rVar 0)) (gName 1) (sSeq (sIf (bOr (bNot (bTru (rAs gIsi (rCons (rVar 1) (rCons (rC (.ty "tuple")) rNil))))) (bOr (bVal (rBin gNe (rAs gLen (rCons (rVar 1) rNil)) (rC (.int 2)))) (bNot (bTru (rCall m_is_name (rCons (rBin gIx (rVar 1) (rC (.int 0))) rNil)))))) (sRet (rC (.bl false))) sNext)
    (sIf (bNot (bTru (rCall m_is_among (rCons (rBin gIx (rVar 1) (rC (.int 1))) (rCons (rC (.int 1)) (rCons (rC (.int 12)) rNil)))))) (sRet (rC (.bl false))) sNext)))
    (sSeq (sAsg (rKeep (rLc (rSeq (rVar 0)) (gName 1) [1] bYes (rBin gIx (rVar 1) (rC (.int 0))))) (gName 2))
    (sRet (rAnd (rAs gAll (rCons (rKeep (rLc (rZipA (rCons (rVar 2) (rCons (rCut (rVar 2) (oSome (rC (.int 1))) oNone) rNil))) (gTup (gCons (gName 3) (gCons (gName 4) gNil))) [3, 4] bYes (rBin gLtU (rVar 3) (rVar 4)))) rNil)) (rBin gLeU (rCall m_mono_degree (rCons (rVar 0) rNil)) (rC (.int 12))))))))
def m_is_mono : Mir := mDef 5 b_is_mono
def b_is_poly : RS := (sSeq (sIf (bOr (bNot (bTru (rAs gIsi (rCons (rVar 0) (rCons (rC (.ty "tuple")) rNil))))) (bVal (rBin gGtU (rAs gLen (rCons (rVar 0) rNil)) (rC (.int 300))))) (sRet (rC (.bl false))) sNext)
    (sSeq (sFor (rSeq (rVar 0)) (gName 1) (sSeq (sIf (bOr (bNot (bTru (rAs gIsi (rCons (rVar 1) (rCons (rC (.ty "tuple")) rNil))))) (bOr (bVal (rBin gNe (rAs gLen (rCons (rVar 1) rNil)) (rC (.int 2)))) (bNot (bTru (rCall m_is_mono (rCons (rBin gIx (rVar 1) (rC (.int 0))) rNil)))))) (sRet (rC (.bl false))) sNext)
    (sIf (bOr (bNot (bTru (rCall m_is_whole (rCons (rBin gIx (rVar 1) (rC (.int 1))) rNil)))) (bOr (bVal (rBin gEq (rBin gIx (rVar 1) (rC (.int 1))) (rC (.int 0)))) (bVal (rBin gGtU (rAs gAbs (rCons (rBin gIx (rVar 1) (rC (.int 1))) rNil)) (rC (.int 10000000000000000000000000000000000000000000000000000000000000000000000000000000000000000000000000000000000000000000000000000000000000000000000000000000000000000000000000000000000000000000000000000000000000000000000000000000000000000000000000000000000000000000000000000000000000000000000000000000000000000000000000000000000000000000000000000000000000000000000000000000000000000000000000000000000000000000000000000000000000000000000000000000000000000000000000000000000000000000000000000000000000000000000000000000000000000000000000000000000000000000000000000000000000000000000000000000000000000000000000000000000000000000000000000000000000000000000000000000000000000000000000000000000000000000000000000000000000000000000000000000000000000000000000000000000000000000000000000000000000000000000000000000000000000000000000000000000000000000000000000000000000000000000000000000000000000000000000000000000000000000000000000000000000000000000000000000000000000000000000000000000000000000000000000000000000000)))))) (sRet (rC (.bl false))) sNext)))
    (sSeq (sAsg (rKeep (rLc (rSeq (rVar 0)) (gName 1) [1] bYes (rBin gIx (rVar 1) (rC (.int 0))))) (gName 2))
    (sRet (rAs gAll (rCons (rKeep (rLc (rZipA (rCons (rVar 2) (rCons (rCut (rVar 2) (oSome (rC (.int 1))) oNone) rNil))) (gTup (gCons (gName 3) (gCons (gName 4) gNil))) [3, 4] bYes (rBin gLtU (rVar 3) (rVar 4)))) rNil))))))
def m_is_poly : Mir := mDef 5 b_is_poly
def b_is_small : RS := (sRet (rChain gLeU gLeU (rBin gSub (rC (.int 0)) (rC (.int 10000000000000000000000000000000000000000000000000000000000000000000000000000000000000000000000000000000000000000000000000000000000000000000000000000000000000000000000000000000000000000000000000000000000000000000000000000000000000000000000000000000000000000000000000000000000000000000000000000000000000000000000000000000000000000000000000000000000000000000000000000000000000000000000000000000000000000000000000000000000000000000000000000000000000000000000000000000000000000000000000000000000000000000000000000000000000000000000000000000000000000000000000000000000000000000000000000000000000000000000000000000000000000000000000000000000000000000000000000000000000000000000000000000000000000000000000000000000000000000000000000000000000000000000000000000000000000000000000000000000000000000000000000000000000000000000000000000000000000000000000000000000000000000000000000000000000000000000000000000000000000000000000000000000000000000000000000000000000000000000000000000000000000000000000000000000000000))) (rVar 0) (rC (.int 10000000000000000000000000000000000000000000000000000000000000000000000000000000000000000000000000000000000000000000000000000000000000000000000000000000000000000000000000000000000000000000000000000000000000000000000000000000000000000000000000000000000000000000000000000000000000000000000000000000000000000000000000000000000000000000000000000000000000000000000000000000000000000000000000000000000000000000000000000000000000000000000000000000000000000000000000000000000000000000000000000000000000000000000000000000000000000000000000000000000000000000000000000000000000000000000000000000000000000000000000000000000000000000000000000000000000000000000000000000000000000000000000000000000000000000000000000000000000000000000000000000000000000000000000000000000000000000000000000000000000000000000000000000000000000000000000000000000000000000000000000000000000000000000000000000000000000000000000000000000000000000000000000000000000000000000000000000000000000000000000000000000000000000000000000000000000000))))
def m_is_small : Mir := mDef 1 b_is_small
def b_is_kind : RS := (sSeq (sIf (bOr (bNot (bTru (rAs gIsi (rCons (rVar 0) (rCons (rC (.ty "tuple")) rNil))))) (bOr (bVal (rBin gNe (rAs gLen (rCons (rVar 0) rNil)) (rC (.int 3)))) (bNot (bTru (rCall m_is_mono (rCons (rBin gIx (rVar 0) (rC (.int 0))) rNil)))))) (sRet (rC (.bl false))) sNext)
    (sRet (rAnd (rCall m_is_among (rCons (rBin gIx (rVar 0) (rC (.int 1))) (rCons (rC (.int 0)) (rCons (rC (.int 99)) rNil)))) (rAnd (rCall m_is_whole (rCons (rBin gIx (rVar 0) (rC (.int 2))) rNil)) (rCall m_is_small (rCons (rBin gIx (rVar 0) (rC (.int 2))) rNil))))))
def m_is_kind : Mir := mDef 1 b_is_kind
def fuel_common_divisor_0 : Sl → Sto → Nat := fun δ _ => natAt δ 1 + 1
def b_common_divisor : RS := (sSeq (sPar 0 1 (rCons (rAs gAbs (rCons (rVar 0) rNil)) (rCons (rAs gAbs (rCons (rVar 1) rNil)) rNil)))
    (sSeq (sWhile fuel_common_divisor_0 (bVal (rBin gGtU (rVar 1) (rC (.int 0)))) (sPar 0 1 (rCons (rVar 1) (rCons (rBin gMod (rVar 0) (rVar 1)) rNil))))
    (sRet (rVar 0))))
def m_common_divisor : Mir := mDef 2 b_common_divisor
def b_is_fraction : RS := (sSeq (sIf (bOr (bNot (bTru (rAs gIsi (rCons (rVar 0) (rCons (rC (.ty "tuple")) rNil))))) (bOr (bVal (rBin gNe (rAs gLen (rCons (rVar 0) rNil)) (rC (.int 2)))) (bOr (bNot (bTru (rCall m_is_whole (rCons (rBin gIx (rVar 0) (rC (.int 0))) rNil)))) (bNot (bTru (rCall m_is_whole (rCons (rBin gIx (rVar 0) (rC (.int 1))) rNil))))))) (sRet (rC (.bl false))) sNext)
    (sRet (rAnd (rBin gGtU (rBin gIx (rVar 0) (rC (.int 1))) (rC (.int 0))) (rBin gEq (rCall m_common_divisor (rCons (rBin gIx (rVar 0) (rC (.int 0))) (rCons (rBin gIx (rVar 0) (rC (.int 1))) rNil))) (rC (.int 1))))))
def m_is_fraction : Mir := mDef 1 b_is_fraction
def b_is_share : RS := (sRet (rAnd (rCall m_is_fraction (rCons (rVar 0) rNil)) (rAnd (rBin gNe (rBin gIx (rVar 0) (rC (.int 0))) (rC (.int 0))) (rAnd (rCall m_is_small (rCons (rBin gIx (rVar 0) (rC (.int 0))) rNil)) (rCall m_is_small (rCons (rBin gIx (rVar 0) (rC (.int 1))) rNil))))))
def m_is_share : Mir := mDef 1 b_is_share
def b_are_pairs : RS := (sSeq (sIf (bOr (bNot (bTru (rAs gIsi (rCons (rVar 0) (rCons (rC (.ty "tuple")) rNil))))) (bVal (rBin gGtU (rAs gLen (rCons (rVar 0) rNil)) (rC (.int 1000))))) (sRet (rC (.bl false))) sNext)
    (sSeq (sFor (rSeq (rVar 0)) (gName 2) (sIf (bOr (bNot (bTru (rAs gIsi (rCons (rVar 2) (rCons (rC (.ty "tuple")) rNil))))) (bOr (bVal (rBin gNe (rAs gLen (rCons (rVar 2) rNil)) (rC (.int 2)))) (bOr (bNot (bTru (rCallV 1 [("is_kind", m_is_kind), ("is_mono", m_is_mono)] (rCons (rBin gIx (rVar 2) (rC (.int 0))) rNil)))) (bNot (bTru (rCall m_is_share (rCons (rBin gIx (rVar 2) (rC (.int 1))) rNil))))))) (sRet (rC (.bl false))) sNext))
    (sRet (rAs gAll (rCons (rKeep (rLc (rZipA (rCons (rVar 0) (rCons (rCut (rVar 0) (oSome (rC (.int 1))) oNone) rNil))) (gTup (gCons (gName 3) (gCons (gName 4) gNil))) [3, 4] bYes (rBin gLtU (rBin gIx (rVar 3) (rC (.int 0))) (rBin gIx (rVar 4) (rC (.int 0)))))) rNil)))))
def m_are_pairs : Mir := mDef 5 b_are_pairs
def b_is_form : RS := (sRet (rCall m_are_pairs (rCons (rVar 0) (rCons (rC (.fn "is_kind")) rNil))))
def m_is_form : Mir := mDef 1 b_is_form
def b_are_named : RS := (sSeq (sIf (bOr (bNot (bTru (rAs gIsi (rCons (rVar 0) (rCons (rC (.ty "tuple")) rNil))))) (bNot (bVal (rChain gLeU gLeU (rC (.int 1)) (rAs gLen (rCons (rVar 0) rNil)) (rVar 1))))) (sRet (rC (.bl false))) sNext)
    (sSeq (sFor (rSeq (rVar 0)) (gName 3) (sIf (bOr (bNot (bTru (rAs gIsi (rCons (rVar 3) (rCons (rC (.ty "tuple")) rNil))))) (bOr (bVal (rBin gNe (rAs gLen (rCons (rVar 3) rNil)) (rC (.int 2)))) (bOr (bNot (bTru (rCall m_is_name (rCons (rBin gIx (rVar 3) (rC (.int 0))) rNil)))) (bNot (bTru (rCallV 2 [("is_poly", m_is_poly), ("is_form", m_is_form)] (rCons (rBin gIx (rVar 3) (rC (.int 1))) rNil))))))) (sRet (rC (.bl false))) sNext))
    (sSeq (sAsg (rKeep (rLc (rSeq (rVar 0)) (gName 3) [3] bYes (rBin gIx (rVar 3) (rC (.int 0))))) (gName 4))
    (sRet (rAs gAll (rCons (rKeep (rLc (rZipA (rCons (rVar 4) (rCons (rCut (rVar 4) (oSome (rC (.int 1))) oNone) rNil))) (gTup (gCons (gName 5) (gCons (gName 6) gNil))) [5, 6] bYes (rBin gLtU (rVar 5) (rVar 6)))) rNil))))))
def m_are_named : Mir := mDef 7 b_are_named
def b_are_rows_within (rec : Mir) : RS := (sRet (rAnd (rBin gGtU (rVar 1) (rC (.int 0))) (rAnd (rBin gNe (rVar 0) (rTup rNil)) (rCall rec (rCons (rVar 0) (rCons (rBin gSub (rVar 1) (rC (.int 1))) rNil))))))
def mp_are_rows_within (rec : Mir) : Mir := mDef 2 (b_are_rows_within rec)
def b_is_row (rec : Mir) : RS := (sSeq (sIf (bOr (bNot (bTru (rAs gIsi (rCons (rVar 0) (rCons (rC (.ty "tuple")) rNil))))) (bOr (bNot (bVal (rChain gLeU gLeU (rC (.int 2)) (rAs gLen (rCons (rVar 0) rNil)) (rC (.int 4))))) (bNot (bTru (rAs gIsi (rCons (rBin gIx (rVar 0) (rC (.int 0))) (rCons (rC (.ty "str")) rNil))))))) (sRet (rC (.bl false))) sNext)
    (sSeq (sIf (bVal (rBin gEq (rBin gIx (rVar 0) (rC (.int 0))) (rC (.str "set")))) (sRet (rAnd (rBin gEq (rAs gLen (rCons (rVar 0) rNil)) (rC (.int 3))) (rAnd (rCall m_is_name (rCons (rBin gIx (rVar 0) (rC (.int 1))) rNil)) (rCall m_is_poly (rCons (rBin gIx (rVar 0) (rC (.int 2))) rNil))))) sNext)
    (sSeq (sIf (bVal (rBin gEq (rBin gIx (rVar 0) (rC (.int 0))) (rC (.str "both")))) (sRet (rAnd (rBin gEq (rAs gLen (rCons (rVar 0) rNil)) (rC (.int 2))) (rCall m_are_named (rCons (rBin gIx (rVar 0) (rC (.int 1))) (rCons (rC (.int 6)) (rCons (rC (.fn "is_poly")) rNil)))))) sNext)
    (sSeq (sIf (bVal (rBin gEq (rBin gIx (rVar 0) (rC (.int 0))) (rC (.str "loop")))) (sRet (rAnd (rBin gEq (rAs gLen (rCons (rVar 0) rNil)) (rC (.int 3))) (rAnd (rCall m_is_poly (rCons (rBin gIx (rVar 0) (rC (.int 1))) rNil)) (rCall (mp_are_rows_within rec) (rCons (rBin gIx (rVar 0) (rC (.int 2))) (rCons (rVar 1) rNil)))))) sNext)
    (sSeq (sIf (bOr (bVal (rBin gNe (rBin gIx (rVar 0) (rC (.int 0))) (rC (.str "jump")))) (bOr (bVal (rBin gNe (rAs gLen (rCons (rVar 0) rNil)) (rC (.int 4)))) (bNot (bTru (rCall m_is_poly (rCons (rBin gIx (rVar 0) (rC (.int 1))) rNil)))))) (sRet (rC (.bl false))) sNext)
    (sRet (rAnd (rCall m_are_named (rCons (rBin gIx (rVar 0) (rC (.int 2))) (rCons (rC (.int 40)) (rCons (rC (.fn "is_form")) rNil)))) (rCall (mp_are_rows_within rec) (rCons (rBin gIx (rVar 0) (rC (.int 3))) (rCons (rVar 1) rNil))))))))))
def mp_is_row (rec : Mir) : Mir := mDef 2 (b_is_row rec)
def b_are_rows (rec : Mir) : RS := (sSeq (sIf (bOr (bNot (bTru (rAs gIsi (rCons (rVar 0) (rCons (rC (.ty "tuple")) rNil))))) (bVal (rBin gGtU (rAs gLen (rCons (rVar 0) rNil)) (rC (.int 12))))) (sRet (rC (.bl false))) sNext)
    (sRet (rAs gAll (rCons (rKeep (rLc (rSeq (rVar 0)) (gName 2) [2] bYes (rCall (mp_is_row rec) (rCons (rVar 2) (rCons (rVar 1) rNil))))) rNil))))
def mr_are_rows : Nat → Mir
  | 0 => mStuck
  | n + 1 => mDef 3 (b_are_rows (mr_are_rows n))
def m_are_rows : Mir := mr_are_rows 4
def b_all_rows (rec : Mir) : RS := (sSeq (sAsg (rOwn (rLst rNil)) (gName 1))
    (sSeq (sFor (rSeq (rVar 0)) (gName 2) (sSeq (sExpr (rMeth "list" mAppend (rVar 1) (rCons (rVar 2) rNil)))
    (sIf (bVal (rBin gInQ (rBin gIx (rVar 2) (rC (.int 0))) (rTup (rCons (rC (.str "loop")) (rCons (rC (.str "jump")) rNil))))) (sExpr (rMeth "list" mExtend (rVar 1) (rCons (rCall rec (rCons (rBin gIx (rVar 2) (rUn gNeg (rC (.int 1)))) rNil)) rNil))) sNext)))
    (sRet (rVar 1))))
def mr_all_rows : Nat → Mir
  | 0 => mStuck
  | n + 1 => mDef 3 (b_all_rows (mr_all_rows n))
def m_all_rows : Mir := mr_all_rows 4
def b_is_program : RS := (sRet (rAnd (rCall m_are_rows (rCons (rVar 0) (rCons (rC (.int 3)) rNil))) (rBin gLeU (rAs gLen (rCons (rCall m_all_rows (rCons (rVar 0) rNil)) rNil)) (rC (.int 60)))))
def m_is_program : Mir := mDef 1 b_is_program
def b_need_program : RS := (sIf (bNot (bTru (rCall m_is_program (rCons (rVar 0) rNil)))) (sRaise0 "BadQuestion") sNext)
def m_need_program : Mir := mDef 1 b_need_program
def b_program_boxes : RS := (sSeq (sExpr (rCall m_need_program (rCons (rVar 0) rNil)))
    (sSeq (sAsg (rOwn (rC (.dct []))) (gName 1))
    (sSeq (sFor (rSeq (rFrz (rCall m_all_rows (rCons (rVar 0) rNil)))) (gName 2) (sSeq sNever
    (sSeq sNever
    (sSeq sNever
    sNever))))
    (sRet (rKeep (rAs gSortKeys (rCons (rVar 1) rNil)))))))
def m_program_boxes : Mir := mDef 9 b_program_boxes
def b_Runner___init__ : RS := (sSeq (sSetI "Runner" "held" (rVar 0) (rVar 1))
    (sSeq (sSetI "Runner" "limit" (rVar 0) (rVar 2))
    (sSetI "Runner" "deeds" (rVar 0) (rC (.int 0)))))
def m_Runner___init__ : Mir := mDef 3 b_Runner___init__
def b_Runner_put : RS := (sSeq (sLock 1 (sIf (bTru (rAs gAny (rCons (rKeep (rLc (rValues (rVar 1)) (gName 2) [2] bYes (rBin gGtU (rAs gAbs (rCons (rVar 2) rNil)) (rC (.int 10000000000000000000000000000000000000000000000000000000000000000000000000000000000000000000000000000000000000000000000000000000000000000000000000000000000000000000000000000000000000000000000000000000000000000000000000000000000000000000000000000000000000000000000000000000000000000000000000000000000000000000000000000000000000000000000000000000000000000000000000000000000000000000000000000000000000000000000000000000000000000000000000000000000000000000000000000000000000000000000000000000000000000000000000000000000000000000000000000000000000000000000000000000000000000000000000000000000000000000000000000000000000000000000000000000000000000000000000000000000000000000000000000000000000000000000000000000000000000000000000000000000000000000000000000000000000000000000000000000000000000000000000000000000000000000000000000000000000000000000000000000000000000000000000000000000000000000000000000000000000000000000000000000000000000000000000000000000000000000000000000000000000000000000000000000000000000))))) rNil))) (sRaise0 "TooGreat") sNext))
    (sExpr (rUpd (rFldI "Runner" "held" (rVar 0)) (rVar 1))))
def m_Runner_put : Mir := mDef 3 b_Runner_put
def b_Runner_go : RS := (sFor (rSeq (rVar 1)) (gName 2) (sSeq sNever
    sNever))
def m_Runner_go : Mir := mDef 7 b_Runner_go
def b_are_numbers : RS := (sSeq (sIf (bNot (bTru (rAs gIsiD (rCons (rVar 0) (rCons (rC (.ty "dict")) rNil))))) (sRet (rC (.bl false))) sNext)
    (sLock 0 (sRet (rAs gAll (rCons (rKeep (rLc (rItems0 (rVar 0)) (gTup (gCons (gName 1) (gCons (gName 2) gNil))) [1, 2] bYes (rAnd (rCall m_is_name (rCons (rVar 1) rNil)) (rCall m_is_whole (rCons (rVar 2) rNil))))) rNil)))))
def m_are_numbers : Mir := mDef 3 b_are_numbers
def b_run : RS := (sSeq (sAsg (rCall m_program_boxes (rCons (rVar 0) rNil)) (gName 3))
    (sSeq (sIf (bNot (bTru (rCall m_are_numbers (rCons (rVar 1) rNil)))) (sRaise0 "BadQuestion") sNext)
    (sSeq (sIf (bNot (bTru (rCall m_is_among (rCons (rVar 2) (rCons (rC (.int 0)) (rCons (rC (.int 20000)) rNil)))))) (sRaise0 "BadQuestion") sNext)
    (sSeq (sAsg (rOwn (rAs gDict (rCons (rKeep (rLc (rSeq (rVar 3)) (gName 6) [6] bYes (rTup (rCons (rVar 6) (rCons (rC (.int 0)) rNil))))) rNil))) (gName 4))
    (sSeq (sExpr (rUpd (rVar 4) (rVar 1)))
    (sSeq (sAsg (rMakeI "Runner" m_Runner___init__ (rCons (rVar 4) (rCons (rVar 2) rNil))) (gName 5))
    (sSeq (sExpr (rMethI "Runner" "put" m_Runner_put (rVar 5) (rCons (rOwn (rAs gDict (rCons (rVar 4) rNil))) rNil)))
    (sSeq (sExpr (rMethI "Runner" "go" m_Runner_go (rVar 5) (rCons (rVar 0) rNil)))
    (sRet (rTup (rCons (rOwn (rAs gDict (rCons (rKeep (rSortItems (rFldI "Runner" "held" (rVar 5)))) rNil))) (rCons (rFldI "Runner" "deeds" (rVar 5)) rNil))))))))))))
def m_run : Mir := mDefK 7 b_run
def b_is_plain : RS := (sSeq (sExpr (rCall m_need_program (rCons (rVar 0) rNil)))
    (sRet (rAs gAll (rCons (rKeep (rLc (rSeq (rVar 0)) (gName 1) [1] bYes (rBin gIsN rNever (rC .non)))) rNil))))
def m_is_plain : Mir := mDef 2 b_is_plain
def b_program_step : RS := (sSeq (sIf (bNot (bTru (rCall m_is_plain (rCons (rVar 0) rNil)))) (sRaise0 "OutOfPlace") sNext)
    (sSeq (sAsg (rOwn (rC (.dct []))) (gName 1))
    (sSeq (sFor (rSeq (rVar 0)) (gName 2) sNever)
    (sRet (rVar 1)))))
def m_program_step : Mir := mDef 3 b_program_step
def b_short_rows : RS := (sRet (rAs gTuple (rCons (rKeep (rLc (rSeq (rVar 0)) (gName 1) [1] bYes rNever)) rNil)))
def m_short_rows : Mir := mDef 2 b_short_rows
def b_shortened : RS := (sSeq (sExpr (rCall m_need_program (rCons (rVar 0) rNil)))
    (sRet (rCall m_short_rows (rCons (rVar 0) rNil))))
def m_shortened : Mir := mDef 1 b_shortened
def b_loops_in : RS := (sSeq (sExpr (rCall m_need_program (rCons (rVar 0) rNil)))
    (sRet (rAs gLen (rCons (rKeep (rLc (rSeq (rFrz (rCall m_all_rows (rCons (rVar 0) rNil)))) (gName 1) [1] (bVal (rBin gEq (rBin gIx (rVar 1) (rC (.int 0))) (rC (.str "loop")))) (rVar 1))) rNil))))
def m_loops_in : Mir := mDef 2 b_loops_in
def b__law_draw : RS := (sSeq (sIf (bVal (rBin gEq (rBin gIx (rVar 1) (rC (.int 1))) (rC (.int 0)))) (sSeq (sAsg (rIf (bVal (rBin gNe (rVar 0) (rKeep (rLst rNil)))) (rBin gIx (rVar 0) (rBin gMod (rBin gIx (rVar 1) (rC (.int 0))) (rAs gLen (rCons (rVar 0) rNil)))) (rC (.int 0))) (gName 3))
    (sSeq (sSetL (rVar 1) (rC (.int 0)) (rBin gAdd (rBin gIx (rVar 1) (rC (.int 0))) (rC (.int 1))))
    (sSeq (sIf (bOr (bVal (rBin gLtU (rVar 3) (rBin gPow (rC (.int 10)) (rC (.int 18))))) (bVal (rBin gGtU (rBin gIx (rVar 1) (rC (.int 0))) (rAs gLen (rCons (rVar 0) rNil))))) (sSeq (sAsg (rBin gAdd (rBin gMul (rBin gMod (rVar 3) (rC (.int 1000003))) (rC (.int 48271))) (rBin gMod (rBin gDiv (rVar 3) (rC (.int 1000003))) (rC (.int 1000003)))) (gName 4))
    (sSeq (sAsg (rBin gMod (rBin gAdd (rBin gAdd (rVar 4) (rBin gMul (rBin gMul (rC (.int 7919)) (rBin gIx (rVar 1) (rC (.int 0)))) (rBin gIx (rVar 1) (rC (.int 0))))) (rBin gMul (rC (.int 13)) (rBin gIx (rVar 1) (rC (.int 0))))) (rC (.int 2147483647))) (gName 4))
    (sRet (rBin gMod (rBin gDiv (rBin gMod (rBin gMul (rBin gMod (rBin gMul (rVar 4) (rVar 4)) (rC (.int 1000000007))) (rC (.int 16807))) (rC (.int 2147483629))) (rC (.int 11))) (rVar 2))))) sNext)
    (sSetL (rVar 1) (rC (.int 1)) (rVar 3))))) sNext)
    (sSeq (sAsg (rBin gMod (rBin gIx (rVar 1) (rC (.int 1))) (rVar 2)) (gName 5))
    (sSeq (sSetL (rVar 1) (rC (.int 1)) (rBin gDiv (rBin gIx (rVar 1) (rC (.int 1))) (rVar 2)))
    (sRet (rVar 5)))))
def m__law_draw : Mir := mDef 6 b__law_draw
def b__law_kind : RS := (sSeq (sAsg (rKeep (rLst (rCons (rTup (rCons (rC (.str "great")) (rCons (rAs (gIsiE clX) (rCons (rVar 0) (rCons (rC (.fn "TooGreat")) rNil))) rNil))) (rCons (rTup (rCons (rC (.str "question")) (rCons (rAs (gIsiE clX) (rCons (rVar 0) (rCons (rC (.fn "BadQuestion")) rNil))) rNil))) rNil)))) (gName 1))
    (sSeq (sAsg (rKeep (rBin gCat (rVar 1) (rKeep (rLst (rCons (rTup (rCons (rC (.str "place")) (rCons (rAs (gIsiE clX) (rCons (rVar 0) (rCons (rC (.fn "OutOfPlace")) rNil))) rNil))) (rCons (rTup (rCons (rC (.str "loop")) (rCons (rAs (gIsiE clX) (rCons (rVar 0) (rCons (rC (.fn "BadLoop")) rNil))) rNil))) rNil)))))) (gName 1))
    (sSeq (sAsg (rKeep (rBin gCat (rVar 1) (rKeep (rLst (rCons (rTup (rCons (rC (.str "hindered")) (rCons (rAs (gIsiE clX) (rCons (rVar 0) (rCons (rC (.fn "Hindered")) rNil))) rNil))) (rCons (rTup (rCons (rC (.str "paper")) (rCons (rAs (gIsiE clX) (rCons (rVar 0) (rCons (rC (.fn "BadPaper")) rNil))) rNil))) rNil)))))) (gName 1))
    (sSeq (sAsg (rKeep (rBin gCat (rVar 1) (rKeep (rLst (rCons (rTup (rCons (rC (.str "row")) (rCons (rAs (gIsiE clX) (rCons (rVar 0) (rCons (rC (.fn "BadRow")) rNil))) rNil))) (rCons (rTup (rCons (rC (.str "bare")) (rCons (rNot (rAs (gIsiE clX) (rCons (rVar 0) (rCons (rC (.ty "ValueError")) rNil)))) rNil))) rNil)))))) (gName 1))
    (sRet (rKeep (rLc (rSeq (rVar 1)) (gTup (gCons (gName 2) (gCons (gName 3) gNil))) [2, 3] (bTru (rVar 3)) (rVar 2))))))))
def m__law_kind : Mir := mDef 4 b__law_kind
noncomputable def bT__law_tried (d0 : D) (th : Sto → Res D) : RS := (sSeq (sAsg (rC .non) (gName 1))
    (sSeq (sAsg (rC .non) (gName 2))
    (sSeq (sTryKeep (sAsg (rThk d0 th) (gName 2)) clX "LoopError" 3 (sAsg (rVar 3) (gName 1)))
    (sRet (rIf (bVal (rBin gIs (rVar 1) (rC .non))) (rTup (rCons (rVar 2) rNil)) (rCall m__law_kind (rCons (rVar 1) rNil)))))))
def b__law_loops : RS := (sSeq (sAsg (rVar 1) (gName 2))
    (sSeq (sFor (rRange (rCons (rVar 0) rNil)) (gName 3) (sAsg (rTup (rCons (rC (.str "loop")) (rCons (rTup (rCons (rTup (rCons (rTup rNil) (rCons (rC (.int 1)) rNil))) rNil)) (rCons (rTup (rCons (rVar 2) rNil)) rNil)))) (gName 2)))
    (sRet (rVar 2))))
def m__law_loops : Mir := mDef 4 b__law_loops
def b__law_none : RS := (sSeq (sAsg (rTup (rCons (rC (.str "set")) (rCons (rC (.str "a")) (rCons (rTup (rCons (rTup (rCons (rTup rNil) (rCons (rC (.int 1)) rNil))) rNil)) rNil)))) (gName 2))
    (sSeq (sAsg (rTup (rCons (rTup (rCons (rTup (rCons (rTup rNil) (rCons (rC (.int 0)) (rCons (rC (.int 1)) rNil)))) (rCons (rTup (rCons (rC (.int 1)) (rCons (rC (.int 1)) rNil))) rNil))) rNil)) (gName 3))
    (sSeq (sAsg (rOwn (rLst (rCons (rC .non) (rCons (rC (.int 5)) (rCons (rC (.str "set")) (rCons (rKeep (rLst (rCons (rVar 2) rNil))) (rCons (rOwn (rC (.dct []))) (rCons (rC (.bl true)) (rCons (rBin gRepX (rTup (rCons (rVar 2) rNil)) (rC (.int 13))) (rCons (rTup (rCons (rTup rNil) rNil)) (rCons (rTup (rCons (rTup (rCons (rC (.str "set")) rNil)) rNil)) (rCons (rTup (rCons (rTup (rCons (rC (.str "set")) (rCons (rC (.str "a")) rNil))) rNil)) rNil)))))))))))) (gName 4))
    (sSeq (sExpr (rMeth "list" mAppend (rVar 4) (rCons (rTup (rCons (rBin gAdd (rVar 2) (rTup (rCons (rC (.int 1)) rNil))) rNil)) rNil)))
    (sSeq (sAsg (rOwn (rBin gCat (rVar 4) (rKeep (rLst (rCons (rTup (rCons (rTup (rCons (rC (.str "set")) (rCons (rC (.str "A")) (rCons (rTup rNil) rNil)))) rNil)) (rCons (rTup (rCons (rTup (rCons (rC (.str "set")) (rCons (rC (.str "abcdefghi")) (rCons (rTup rNil) rNil)))) rNil)) (rCons (rTup (rCons (rTup (rCons (rC (.str "set")) (rCons (rC (.str "a")) (rCons (rC (.int 5)) rNil)))) rNil)) (rCons (rTup (rCons (rTup (rCons (rC (.str "set")) (rCons (rC (.int 5)) (rCons (rTup rNil) rNil)))) rNil)) rNil)))))))) (gName 4))
    (sSeq (sAsg (rOwn (rBin gCat (rVar 4) (rKeep (rLst (rCons (rTup (rCons (rTup (rCons (rC (.str "set")) (rCons (rC (.str "a")) (rCons (rTup (rCons (rTup (rCons (rTup rNil) (rCons (rC (.int 0)) rNil))) rNil)) rNil)))) rNil)) (rCons (rTup (rCons (rTup (rCons (rC (.str "set")) (rCons (rC (.str "a")) (rCons (rTup (rCons (rTup (rCons (rTup rNil) (rCons (rC (.bl true)) rNil))) rNil)) rNil)))) rNil)) (rCons (rTup (rCons (rTup (rCons (rC (.str "set")) (rCons (rC (.str "a")) (rCons (rKeep (rLst (rCons (rTup (rCons (rTup rNil) (rCons (rC (.int 1)) rNil))) rNil))) rNil)))) rNil)) rNil))))))) (gName 4))
    (sSeq (sAsg (rOwn (rBin gCat (rVar 4) (rKeep (rLst (rCons (rTup (rCons (rTup (rCons (rC (.str "set")) (rCons (rC (.str "a")) (rCons (rTup (rCons (rTup (rCons (rTup (rCons (rTup (rCons (rC (.str "b")) (rCons (rC (.int 0)) rNil))) rNil)) (rCons (rC (.int 1)) rNil))) rNil)) rNil)))) rNil)) (rCons (rTup (rCons (rKeep (rLst (rCons (rC (.str "set")) (rCons (rC (.str "a")) (rCons (rTup rNil) rNil))))) rNil)) (rCons (rTup (rCons (rTup (rCons (rC (.str "sets")) (rCons (rC (.str "a")) (rCons (rTup rNil) rNil)))) rNil)) rNil))))))) (gName 4))
    (sSeq (sExpr (rMeth "list" mAppend (rVar 4) (rCons (rTup (rCons (rC .non) rNil)) rNil)))
    (sSeq (sAsg (rOwn (rBin gCat (rVar 4) (rKeep (rLst (rCons (rTup (rCons (rTup (rCons (rC (.str "both")) (rCons (rTup rNil) rNil))) rNil)) (rCons (rTup (rCons (rTup (rCons (rC (.str "both")) (rCons (rTup (rCons (rTup (rCons (rC (.str "a")) (rCons (rTup rNil) rNil))) (rCons (rTup (rCons (rC (.str "a")) (rCons (rTup rNil) rNil))) rNil))) rNil))) rNil)) rNil)))))) (gName 4))
    (sSeq (sExpr (rMeth "list" mAppend (rVar 4) (rCons (rTup (rCons (rTup (rCons (rC (.str "both")) (rCons (rTup (rCons (rTup (rCons (rC (.str "b")) (rCons (rTup rNil) rNil))) (rCons (rTup (rCons (rC (.str "a")) (rCons (rTup rNil) rNil))) rNil))) rNil))) rNil)) rNil)))
    (sSeq (sAsg (rOwn (rBin gCat (rVar 4) (rKeep (rLst (rCons (rTup (rCons (rTup (rCons (rC (.str "both")) (rCons (rTup (rCons (rTup (rCons (rC (.str "a")) rNil)) rNil)) rNil))) rNil)) (rCons (rTup (rCons (rTup (rCons (rC (.str "both")) (rCons (rAs gTuple (rCons (rKeep (rLc (rRange (rCons (rC (.int 7)) rNil)) (gName 8) [8] bYes (rTup (rCons (rBin gIx (rC (.str "abcdefg")) (rVar 8)) (rCons (rTup rNil) rNil))))) rNil)) rNil))) rNil)) rNil)))))) (gName 4))
    (sSeq (sAsg (rOwn (rBin gCat (rVar 4) (rKeep (rLst (rCons (rTup (rCons (rTup (rCons (rC (.str "both")) (rCons (rTup (rCons (rTup (rCons (rC (.str "a")) (rCons (rVar 3) rNil))) rNil)) rNil))) rNil)) (rCons (rTup (rCons (rTup (rCons (rC (.str "loop")) (rCons (rTup rNil) (rCons (rTup rNil) rNil)))) rNil)) (rCons (rTup (rCons (rTup (rCons (rC (.str "loop")) (rCons (rTup (rCons (rTup rNil) (rCons (rC (.int 1)) rNil))) (rCons (rTup (rCons (rVar 2) rNil)) rNil)))) rNil)) rNil))))))) (gName 4))
    (sSeq (sAsg (rOwn (rBin gCat (rVar 4) (rKeep (rLst (rCons (rTup (rCons (rTup (rCons (rC (.str "loop")) (rCons (rTup rNil) rNil))) rNil)) (rCons (rTup (rCons (rTup (rCons (rC (.str "loop")) (rCons (rTup rNil) (rCons (rVar 2) rNil)))) rNil)) (rCons (rTup (rCons (rCall m__law_loops (rCons (rC (.int 4)) (rCons (rVar 2) rNil))) rNil)) rNil))))))) (gName 4))
    (sSeq (sExpr (rMeth "list" mAppend (rVar 4) (rCons (rTup (rCons (rTup (rCons (rC (.str "loop")) (rCons (rTup rNil) (rCons (rTup (rCons (rVar 2) rNil)) (rCons (rVar 2) rNil))))) rNil)) rNil)))
    (sSeq (sAsg (rOwn (rBin gCat (rVar 4) (rKeep (rLst (rCons (rTup (rCons (rTup (rCons (rC (.str "loop")) (rCons (rTup rNil) (rCons (rTup (rCons (rC (.int 5)) rNil)) rNil)))) rNil)) (rCons (rTup (rCons (rTup (rCons (rC (.str "jump")) (rCons (rTup rNil) (rCons (rTup (rCons (rTup (rCons (rC (.str "a")) (rCons (rVar 3) rNil))) rNil)) rNil)))) rNil)) (rCons (rTup (rCons (rTup (rCons (rC (.str "jump")) (rCons (rTup rNil) (rCons (rTup rNil) (rCons (rTup (rCons (rVar 2) rNil)) rNil))))) rNil)) rNil))))))) (gName 4))
    (sSeq (sExpr (rMeth "list" mAppend (rVar 4) (rCons (rTup (rCons (rTup (rCons (rC (.str "jump")) (rCons (rTup rNil) (rCons (rTup (rCons (rTup (rCons (rC (.str "a")) (rCons (rVar 3) rNil))) rNil)) (rCons (rTup rNil) rNil))))) rNil)) rNil)))
    (sSeq (sExpr (rMeth "list" mAppend (rVar 4) (rCons (rTup (rCons (rTup (rCons (rC (.str "jump")) (rCons (rTup rNil) (rCons (rTup (rCons (rTup (rCons (rC (.str "a")) (rCons (rTup rNil) rNil))) (rCons (rTup (rCons (rC (.str "a")) (rCons (rTup rNil) rNil))) rNil))) (rCons (rTup (rCons (rVar 2) rNil)) rNil))))) rNil)) rNil)))
    (sSeq (sExpr (rMeth "list" mAppend (rVar 4) (rCons (rTup (rCons (rTup (rCons (rC (.str "jump")) (rCons (rC (.int 5)) (rCons (rTup (rCons (rTup (rCons (rC (.str "a")) (rCons (rVar 3) rNil))) rNil)) (rCons (rTup (rCons (rVar 2) rNil)) rNil))))) rNil)) rNil)))
    (sSeq (sAsg (rOwn (rBin gCat (rVar 4) (rKeep (rLst (rCons (rTup (rCons (rTup (rCons (rC (.str "jump")) (rCons (rTup rNil) (rCons (rTup (rCons (rTup (rCons (rC (.str "a")) (rCons (rTup (rCons (rTup (rCons (rTup (rCons (rTup rNil) (rCons (rC (.int 0)) (rCons (rC (.int 1)) rNil)))) (rCons (rTup (rCons (rC (.int 2)) (rCons (rC (.int 2)) rNil))) rNil))) rNil)) rNil))) rNil)) (rCons (rTup (rCons (rVar 2) rNil)) rNil))))) rNil)) (rCons (rTup (rCons (rTup (rCons (rOwn (rC (.dct []))) (rCons (rC (.str "a")) (rCons (rTup rNil) rNil)))) rNil)) rNil)))))) (gName 4))
    (sSeq (sExpr (rMeth "list" mAppend (rVar 4) (rCons (rTup (rCons (rTup (rCons (rC (.int 1)) (rCons (rC (.str "a")) (rCons (rTup rNil) rNil)))) rNil)) rNil)))
    (sSeq (sAsg (rOwn (rBin gCat (rVar 4) (rKeep (rLst (rCons (rTup (rCons (rTup (rCons (rC (.str "jump")) (rCons (rTup rNil) (rCons (rTup (rCons (rTup (rCons (rC (.str "a")) (rCons (rVar 3) rNil))) rNil)) (rCons (rTup (rCons (rCall m__law_loops (rCons (rC (.int 3)) (rCons (rVar 2) rNil))) rNil)) rNil))))) rNil)) (rCons (rTup (rCons (rTup (rCons (rC (.str "loop")) (rCons (rTup rNil) (rCons (rBin gRepX (rTup (rCons (rVar 2) rNil)) (rC (.int 13))) rNil)))) rNil)) rNil)))))) (gName 4))
    (sSeq (sExpr (rMeth "list" mAppend (rVar 4) (rCons (rBin gRepX (rTup (rCons (rTup (rCons (rC (.str "loop")) (rCons (rTup rNil) (rCons (rBin gRepX (rTup (rCons (rVar 2) rNil)) (rC (.int 12))) rNil)))) rNil)) (rC (.int 5))) rNil)))
    (sSeq (sAsg (rTup (rCons (rC (.str "both")) (rCons (rTup (rCons (rTup (rCons (rC (.str "a")) (rCons (rTup rNil) rNil))) rNil)) rNil))) (gName 5))
    (sSeq (sAsg (rOwn (rBin gCat (rVar 4) (rKeep (rLst (rCons (rBin gRepX (rTup (rCons (rTup (rCons (rC (.str "loop")) (rCons (rTup rNil) (rCons (rBin gRepX (rTup (rCons (rVar 5) rNil)) (rC (.int 12))) rNil)))) rNil)) (rC (.int 5))) (rCons (rBin gAdd (rBin gAdd (rBin gRepX (rTup (rCons (rTup (rCons (rC (.str "loop")) (rCons (rTup rNil) (rCons (rBin gRepX (rTup (rCons (rVar 5) rNil)) (rC (.int 12))) rNil)))) rNil)) (rC (.int 4))) (rBin gRepX (rTup (rCons (rVar 2) rNil)) (rC (.int 4)))) (rBin gRepX (rTup (rCons (rVar 5) rNil)) (rC (.int 5)))) rNil)))))) (gName 4))
    (sSeq (sAsg (rTup (rCons (rC (.str "jump")) (rCons (rTup rNil) (rCons (rTup (rCons (rTup (rCons (rC (.str "a")) (rCons (rVar 3) rNil))) rNil)) (rCons (rTup (rCons (rCall m__law_loops (rCons (rC (.int 1)) (rCons (rVar 2) rNil))) rNil)) rNil))))) (gName 6))
    (sSeq (sAsg (rOwn (rBin gCat (rVar 4) (rKeep (rLst (rCons (rTup (rCons (rCall m__law_loops (rCons (rC (.int 2)) (rCons (rVar 6) rNil))) rNil)) (rCons (rTup (rCons (rCall m__law_loops (rCons (rC (.int 3)) (rCons (rTup (rCons (rC (.str "jump")) (rCons (rTup rNil) (rCons (rTup (rCons (rTup (rCons (rC (.str "a")) (rCons (rVar 3) rNil))) rNil)) (rCons (rTup (rCons (rVar 2) rNil)) rNil))))) rNil))) rNil)) rNil)))))) (gName 4))
    (sSeq (sExpr (rMeth "list" mAppend (rVar 4) (rCons (rBin gRepX (rTup (rCons (rTup (rCons (rC (.str "jump")) (rCons (rTup rNil) (rCons (rTup (rCons (rTup (rCons (rC (.str "a")) (rCons (rVar 3) rNil))) rNil)) (rCons (rBin gRepX (rTup (rCons (rVar 2) rNil)) (rC (.int 12))) rNil))))) rNil)) (rC (.int 5))) rNil)))
    (sSeq (sAsg (rKeep (rBin gCat (rKeep (rLc (rSeq (rC (.str "abcdefghijklmnopqrstuvwxyz"))) (gName 9) [9] bYes (rBin gAdd (rC (.str "a")) (rVar 9)))) (rKeep (rLc (rSeq (rC (.str "abcdefghijklmno"))) (gName 9) [9] bYes (rBin gAdd (rC (.str "b")) (rVar 9)))))) (gName 7))
    (sSeq (sExpr (rMeth "list" mAppend (rVar 4) (rCons (rTup (rCons (rTup (rCons (rC (.str "jump")) (rCons (rTup rNil) (rCons (rAs gTuple (rCons (rKeep (rLc (rSeq (rVar 7)) (gName 10) [10] bYes (rTup (rCons (rVar 10) (rCons (rVar 3) rNil))))) rNil)) (rCons (rTup (rCons (rVar 2) rNil)) rNil))))) rNil)) rNil)))
    (sRet (rBin gIx (rVar 4) (rCall m__law_draw (rCons (rVar 0) (rCons (rVar 1) (rCons (rAs gLen (rCons (rVar 4) rNil)) rNil)))))))))))))))))))))))))))))))))))
def m__law_none : Mir := mDefK 11 b__law_none
def b__law_bounds_right : RS := (sSeq (sAsg (rTup (rCons (rC (.str "set")) (rCons (rC (.str "abcdefgh")) (rCons (rTup (rCons (rTup (rCons (rTup rNil) (rCons (rC (.int 1)) rNil))) rNil)) rNil)))) (gName 0))
    (sSeq (sAsg (rTup (rCons (rTup (rCons (rTup (rCons (rTup rNil) (rCons (rC (.int 99)) (rCons (rC (.int 1)) rNil)))) (rCons (rTup (rCons (rC (.int 1)) (rCons (rC (.int 2)) rNil))) rNil))) rNil)) (gName 1))
    (sSeq (sAsg (rOwn (rLst (rCons (rTup rNil) (rCons (rBin gRepX (rTup (rCons (rVar 0) rNil)) (rC (.int 12))) (rCons (rTup (rCons (rCall m__law_loops (rCons (rC (.int 3)) (rCons (rVar 0) rNil))) rNil)) rNil))))) (gName 2))
    (sSeq (sExpr (rMeth "list" mAppend (rVar 2) (rCons (rTup (rCons (rTup (rCons (rC (.str "both")) (rCons (rAs gTuple (rCons (rKeep (rLc (rRange (rCons (rC (.int 6)) rNil)) (gName 5) [5] bYes (rTup (rCons (rBin gIx (rC (.str "abcdef")) (rVar 5)) (rCons (rTup rNil) rNil))))) rNil)) rNil))) rNil)) rNil)))
    (sSeq (sExpr (rMeth "list" mAppend (rVar 2) (rCons (rBin gAdd (rBin gRepX (rTup (rCons (rTup (rCons (rC (.str "loop")) (rCons (rTup rNil) (rCons (rBin gRepX (rTup (rCons (rVar 0) rNil)) (rC (.int 12))) rNil)))) rNil)) (rC (.int 4))) (rBin gRepX (rTup (rCons (rVar 0) rNil)) (rC (.int 8)))) rNil)))
    (sSeq (sAsg (rTup (rCons (rC (.str "both")) (rCons (rTup (rCons (rTup (rCons (rC (.str "a")) (rCons (rTup rNil) rNil))) rNil)) rNil))) (gName 3))
    (sSeq (sExpr (rMeth "list" mAppend (rVar 2) (rCons (rBin gAdd (rBin gAdd (rBin gRepX (rTup (rCons (rTup (rCons (rC (.str "loop")) (rCons (rTup rNil) (rCons (rBin gRepX (rTup (rCons (rVar 3) rNil)) (rC (.int 12))) rNil)))) rNil)) (rC (.int 4))) (rBin gRepX (rTup (rCons (rVar 0) rNil)) (rC (.int 4)))) (rBin gRepX (rTup (rCons (rVar 3) rNil)) (rC (.int 4)))) rNil)))
    (sSeq (sExpr (rMeth "list" mAppend (rVar 2) (rCons (rTup (rCons (rCall m__law_loops (rCons (rC (.int 2)) (rCons (rTup (rCons (rC (.str "jump")) (rCons (rTup rNil) (rCons (rTup (rCons (rTup (rCons (rC (.str "a")) (rCons (rVar 1) rNil))) rNil)) (rCons (rTup (rCons (rVar 0) rNil)) rNil))))) rNil))) rNil)) rNil)))
    (sSeq (sExpr (rMeth "list" mAppend (rVar 2) (rCons (rBin gAdd (rBin gRepX (rTup (rCons (rTup (rCons (rC (.str "jump")) (rCons (rTup rNil) (rCons (rTup (rCons (rTup (rCons (rC (.str "a")) (rCons (rVar 1) rNil))) rNil)) (rCons (rBin gRepX (rTup (rCons (rVar 0) rNil)) (rC (.int 12))) rNil))))) rNil)) (rC (.int 4))) (rBin gRepX (rTup (rCons (rVar 0) rNil)) (rC (.int 8)))) rNil)))
    (sSeq (sExpr (rMeth "list" mAppend (rVar 2) (rCons (rTup (rCons (rTup (rCons (rC (.str "jump")) (rCons (rTup rNil) (rCons (rTup (rCons (rTup (rCons (rC (.str "a")) (rCons (rVar 1) rNil))) rNil)) (rCons (rTup (rCons (rCall m__law_loops (rCons (rC (.int 2)) (rCons (rVar 0) rNil))) rNil)) rNil))))) rNil)) rNil)))
    (sSeq (sExpr (rMeth "list" mAppend (rVar 2) (rCons (rTup (rCons (rTup (rCons (rC (.str "jump")) (rCons (rTup rNil) (rCons (rTup (rCons (rTup (rCons (rC (.str "a")) (rCons (rTup rNil) rNil))) (rCons (rTup (rCons (rC (.str "ab")) (rCons (rTup rNil) rNil))) (rCons (rTup (rCons (rC (.str "b")) (rCons (rVar 1) rNil))) rNil)))) (rCons (rTup (rCons (rVar 0) rNil)) rNil))))) rNil)) rNil)))
    (sSeq (sAsg (rKeep (rBin gCat (rKeep (rLc (rSeq (rC (.str "abcdefghijklmnopqrstuvwxyz"))) (gName 6) [6] bYes (rBin gAdd (rC (.str "a")) (rVar 6)))) (rKeep (rLc (rSeq (rC (.str "abcdefghijklmn"))) (gName 6) [6] bYes (rBin gAdd (rC (.str "b")) (rVar 6)))))) (gName 4))
    (sSeq (sExpr (rMeth "list" mAppend (rVar 2) (rCons (rTup (rCons (rTup (rCons (rC (.str "jump")) (rCons (rTup rNil) (rCons (rAs gTuple (rCons (rKeep (rLc (rSeq (rVar 4)) (gName 7) [7] bYes (rTup (rCons (rVar 7) (rCons (rVar 1) rNil))))) rNil)) (rCons (rTup (rCons (rVar 0) rNil)) rNil))))) rNil)) rNil)))
    (sSeq (sFreeze 2)
    (sRet (rBin gEq (rKeep (rLc (rSeq (rVar 2)) (gName 0) [0] (bOr (bVal (rBin gIsN (rCall m_is_program (rCons (rVar 0) rNil)) (rC (.bl true)))) (bVal (rBin gIsN (rCall m_need_program (rCons (rVar 0) rNil)) (rC .non)))) (rVar 0))) (rKeep (rLst rNil))))))))))))))))))
def m__law_bounds_right : Mir := mDef 8 b__law_bounds_right
noncomputable def b_law (tt : Nat → Addr) : RS := (sSeq (sAsg (rOwn (rLst (rCons (rC (.int 0)) (rCons (rC (.int 0)) rNil)))) (gName 1))
    (sSeq (sFor (rRange (rCons (rAs gMin (rCons (rC (.int 40)) (rCons (rAs gMax (rCons (rC (.int 3)) (rCons (rAs gLen (rCons (rVar 0) rNil)) rNil))) rNil))) rNil)) (gName 2) (sLocal (sSeq (sAsg (rCall m__law_none (rCons (rVar 0) (rCons (rVar 1) rNil))) (gName 3))
    (sSeq (sIf (bVal (rBin gIsN (rCall m_is_program (rCons (rVar 3) rNil)) (rC (.bl false)))) (sRet (rC (.bl false))) sNext)
    (sSeq (sFor (rSeq (rTup (rCons (rC (.fn "need_program")) (rCons (rC (.fn "program_boxes")) (rCons (rC (.fn "is_plain")) (rCons (rC (.fn "program_step")) (rCons (rC (.fn "shortened")) (rCons (rC (.fn "loops_in")) rNil)))))))) (gName 4) (sIf (bVal (rBin gNe (rLam 0 (tt 0) "law.<locals>.<lambda>" [3, 4] (rCallV 4 [("need_program", m_need_program), ("program_boxes", m_program_boxes), ("is_plain", m_is_plain), ("program_step", m_program_step), ("shortened", m_shortened), ("loops_in", m_loops_in)] (rCons (rVar 3) rNil)) (fun d0 th => mDef 4 (bT__law_tried d0 th) [d0])) (rKeep (rLst (rCons (rC (.str "question")) rNil))))) (sRet (rC (.bl false))) sNext))
    (sSeq (sIf (bVal (rBin gNe (rLam 0 (tt 0) "law.<locals>.<lambda>" [3] (rCall m_run (rCons (rVar 3) (rCons (rC .non) (rCons (rC .non) rNil)))) (fun d0 th => mDef 4 (bT__law_tried d0 th) [d0])) (rKeep (rLst (rCons (rC (.str "question")) rNil))))) (sRet (rC (.bl false))) sNext)
    (sSeq (sAsg (rKeep (rLst (rCons (rC .non) (rCons (rKeep (rLst rNil)) (rCons (rOwn (rDisp [((rC (.str "a")), (rC (.bl true)))])) (rCons (rOwn (rDisp [((rC (.str "A")), (rC (.int 1)))])) (rCons (rOwn (rDisp [((rC (.int 5)), (rC (.int 1)))])) (rCons (rOwn (rDisp [((rC (.str "a")), (rC (.str "1")))])) (rCons (rOwn (rDisp [((rC (.str "a")), (rC .non))])) (rCons (rTup (rCons (rTup (rCons (rC (.str "a")) (rCons (rC (.int 1)) rNil))) rNil)) rNil)))))))))) (gName 5))
    (sSeq (sAsg (rBin gIx (rVar 5) (rCall m__law_draw (rCons (rVar 0) (rCons (rVar 1) (rCons (rC (.int 8)) rNil))))) (gName 5))
    (sSeq (sIf (bVal (rBin gNe (rLam 0 (tt 0) "law.<locals>.<lambda>" [5] (rCall m_run (rCons (rTup rNil) (rCons (rVar 5) (rCons (rC (.int 5)) rNil)))) (fun d0 th => mDef 4 (bT__law_tried d0 th) [d0])) (rKeep (rLst (rCons (rC (.str "question")) rNil))))) (sRet (rC (.bl false))) sNext)
    (sSeq (sAsg (rBin gIx (rKeep (rLst (rCons (rC .non) (rCons (rUn gNeg (rC (.int 1))) (rCons (rC (.int 20001)) (rCons (rC (.bl true)) (rCons (rC (.str "5")) (rCons (rKeep (rLst (rCons (rC (.int 5)) rNil))) (rCons (rBin gPow (rC (.int 10)) (rC (.int 20))) rNil))))))))) (rCall m__law_draw (rCons (rVar 0) (rCons (rVar 1) (rCons (rC (.int 7)) rNil))))) (gName 6))
    (sFor (rSeq (rTup (rCons (rC (.int 1)) (rCons (rBin gAdd (rBin gPow (rBin gPow (rC (.int 10)) (rC (.int 50))) (rC (.int 20))) (rC (.int 1))) rNil)))) (gName 7) (sIf (bVal (rBin gNe (rLam 0 (tt 0) "law.<locals>.<lambda>" [6, 7] (rCall m_run (rCons (rTup rNil) (rCons (rOwn (rDisp [((rC (.str "a")), (rVar 7))])) (rCons (rVar 6) rNil)))) (fun d0 th => mDef 4 (bT__law_tried d0 th) [d0])) (rKeep (rLst (rCons (rC (.str "question")) rNil))))) (sRet (rC (.bl false))) sNext))))))))))))
    (sSeq (sFor (rSeq (rTup (rCons (rC (.int 0)) (rCons (rC (.int 20000)) rNil)))) (gName 6) (sIf (bOr (bVal (rBin (gEqTD false) (rCall m_run (rCons (rTup rNil) (rCons (rOwn (rDisp [((rC (.str "b")), (rC (.int 5))), ((rC (.str "a")), (rC (.int 1)))])) (rCons (rVar 6) rNil)))) (rTup (rCons (rOwn (rDisp [((rC (.str "a")), (rC (.int 1))), ((rC (.str "b")), (rC (.int 5)))])) (rCons (rC (.int 0)) rNil))))) (bVal (rBin gNe (rCall m_shortened (rCons (rTup rNil) rNil)) (rTup rNil)))) (sRet (rC (.bl false))) sNext))
    (sSeq (sIf (bOr (bVal (rBin gIsN (rCall m_is_plain (rCons (rTup rNil) rNil)) (rC (.bl true)))) (bOr (bVal (rBin gNeB (rCall m_program_step (rCons (rTup rNil) rNil)) (rOwn (rC (.dct []))))) (bOr (bVal (rBin gNe (rCall m_program_boxes (rCons (rTup rNil) rNil)) (rKeep (rLst rNil)))) (bVal (rBin gNe (rCall m_loops_in (rCons (rTup rNil) rNil)) (rC (.int 0))))))) (sRet (rC (.bl false))) sNext)
    (sRet (rCall m__law_bounds_right rNil))))))
noncomputable def m_law (tt : Nat → Addr) : Mir := mDef 8 (b_law tt)
end DL
set_option Elab.async false
set_option linter.all false
set_option maxRecDepth 100000
set_option maxHeartbeats 0
set_option autoImplicit false
namespace DL
open PySem PySem.Spec PyProof.Rows L2
def top (i : Nat) : Stmt := PySem.Challenge.pw_roundless_k79_programs_refused.main.body.getD i (.Pass ⟨0, 0, 0, 0⟩)
def clsSt (s : Stmt) (j : Nat) : Stmt := match s with
  | .ClassDef _ _ _ body _ _ _ _ _ _ _ => body.getD j (.Pass ⟨0, 0, 0, 0⟩)
  | _ => .Pass ⟨0, 0, 0, 0⟩
abbrev st_is_name : Stmt := top 14
abbrev st_is_whole : Stmt := top 12
abbrev st_is_among : Stmt := top 13
abbrev st_mono_degree : Stmt := top 29
abbrev st_is_mono : Stmt := top 28
abbrev st_is_poly : Stmt := top 30
abbrev st_is_small : Stmt := top 44
abbrev st_is_kind : Stmt := top 46
abbrev st_common_divisor : Stmt := top 17
abbrev st_is_fraction : Stmt := top 19
abbrev st_is_share : Stmt := top 45
abbrev st_are_pairs : Stmt := top 47
abbrev st_is_form : Stmt := top 48
abbrev st_are_named : Stmt := top 81
abbrev st_are_rows_within : Stmt := top 83
abbrev st_is_row : Stmt := top 82
abbrev st_are_rows : Stmt := top 84
abbrev st_all_rows : Stmt := top 85
abbrev st_is_program : Stmt := top 86
abbrev st_need_program : Stmt := top 87
abbrev st_program_boxes : Stmt := top 89
abbrev st_Runner___init__ : Stmt := clsSt (top 91) 0
abbrev st_Runner_put : Stmt := clsSt (top 91) 2
abbrev st_Runner_go : Stmt := clsSt (top 91) 5
abbrev st_are_numbers : Stmt := top 92
abbrev st_run : Stmt := top 93
abbrev st_is_plain : Stmt := top 97
abbrev st_program_step : Stmt := top 98
abbrev st_short_rows : Stmt := top 140
abbrev st_shortened : Stmt := top 141
abbrev st_loops_in : Stmt := top 142
abbrev st__law_draw : Stmt := top 144
abbrev st__law_kind : Stmt := top 145
abbrev st__law_tried : Stmt := top 146
abbrev st__law_loops : Stmt := top 147
abbrev st__law_none : Stmt := top 148
abbrev st__law_bounds_right : Stmt := top 149
abbrev st_law : Stmt := top 150
def dd_is_name : He.DefD := ⟨("is_name", none), "is_name", "is_name", defArgs st_is_name, defBody st_is_name, defScope st_is_name, [], []⟩
def dd_is_whole : He.DefD := ⟨("is_whole", none), "is_whole", "is_whole", defArgs st_is_whole, defBody st_is_whole, defScope st_is_whole, [], []⟩
def dd_is_among : He.DefD := ⟨("is_among", none), "is_among", "is_among", defArgs st_is_among, defBody st_is_among, defScope st_is_among, [], []⟩
def dd_mono_degree : He.DefD := ⟨("mono_degree", none), "mono_degree", "mono_degree", defArgs st_mono_degree, defBody st_mono_degree, defScope st_mono_degree, [], []⟩
def dd_is_mono : He.DefD := ⟨("is_mono", none), "is_mono", "is_mono", defArgs st_is_mono, defBody st_is_mono, defScope st_is_mono, [], []⟩
def dd_is_poly : He.DefD := ⟨("is_poly", none), "is_poly", "is_poly", defArgs st_is_poly, defBody st_is_poly, defScope st_is_poly, [], []⟩
def dd_is_small : He.DefD := ⟨("is_small", none), "is_small", "is_small", defArgs st_is_small, defBody st_is_small, defScope st_is_small, [], []⟩
def dd_is_kind : He.DefD := ⟨("is_kind", none), "is_kind", "is_kind", defArgs st_is_kind, defBody st_is_kind, defScope st_is_kind, [], []⟩
def dd_common_divisor : He.DefD := ⟨("common_divisor", none), "common_divisor", "common_divisor", defArgs st_common_divisor, defBody st_common_divisor, defScope st_common_divisor, [], []⟩
def dd_is_fraction : He.DefD := ⟨("is_fraction", none), "is_fraction", "is_fraction", defArgs st_is_fraction, defBody st_is_fraction, defScope st_is_fraction, [], []⟩
def dd_is_share : He.DefD := ⟨("is_share", none), "is_share", "is_share", defArgs st_is_share, defBody st_is_share, defScope st_is_share, [], []⟩
def dd_are_pairs : He.DefD := ⟨("are_pairs", none), "are_pairs", "are_pairs", defArgs st_are_pairs, defBody st_are_pairs, defScope st_are_pairs, [], []⟩
def dd_is_form : He.DefD := ⟨("is_form", none), "is_form", "is_form", defArgs st_is_form, defBody st_is_form, defScope st_is_form, [], []⟩
def dd_are_named : He.DefD := ⟨("are_named", none), "are_named", "are_named", defArgs st_are_named, defBody st_are_named, defScope st_are_named, [], []⟩
def dd_are_rows_within : He.DefD := ⟨("are_rows_within", none), "are_rows_within", "are_rows_within", defArgs st_are_rows_within, defBody st_are_rows_within, defScope st_are_rows_within, [], []⟩
def dd_is_row : He.DefD := ⟨("is_row", none), "is_row", "is_row", defArgs st_is_row, defBody st_is_row, defScope st_is_row, [], []⟩
def dd_are_rows : He.DefD := ⟨("are_rows", none), "are_rows", "are_rows", defArgs st_are_rows, defBody st_are_rows, defScope st_are_rows, [], []⟩
def dd_all_rows : He.DefD := ⟨("all_rows", none), "all_rows", "all_rows", defArgs st_all_rows, defBody st_all_rows, defScope st_all_rows, [], []⟩
def dd_is_program : He.DefD := ⟨("is_program", none), "is_program", "is_program", defArgs st_is_program, defBody st_is_program, defScope st_is_program, [], []⟩
def dd_need_program : He.DefD := ⟨("need_program", none), "need_program", "need_program", defArgs st_need_program, defBody st_need_program, defScope st_need_program, [], []⟩
def dd_program_boxes : He.DefD := ⟨("program_boxes", none), "program_boxes", "program_boxes", defArgs st_program_boxes, defBody st_program_boxes, defScope st_program_boxes, [], []⟩
def dd_Runner___init__ : He.DefD := ⟨("Runner", some "__init__"), "__init__", "Runner.__init__", defArgs st_Runner___init__, defBody st_Runner___init__, defScope st_Runner___init__, [], []⟩
def dd_Runner_put : He.DefD := ⟨("Runner", some "put"), "put", "Runner.put", defArgs st_Runner_put, defBody st_Runner_put, defScope st_Runner_put, [], []⟩
def dd_Runner_go : He.DefD := ⟨("Runner", some "go"), "go", "Runner.go", defArgs st_Runner_go, defBody st_Runner_go, defScope st_Runner_go, [], []⟩
def dd_are_numbers : He.DefD := ⟨("are_numbers", none), "are_numbers", "are_numbers", defArgs st_are_numbers, defBody st_are_numbers, defScope st_are_numbers, [], []⟩
def dd_run : He.DefD := ⟨("run", none), "run", "run", defArgs st_run, defBody st_run, defScope st_run, [], []⟩
def dd_is_plain : He.DefD := ⟨("is_plain", none), "is_plain", "is_plain", defArgs st_is_plain, defBody st_is_plain, defScope st_is_plain, [], []⟩
def dd_program_step : He.DefD := ⟨("program_step", none), "program_step", "program_step", defArgs st_program_step, defBody st_program_step, defScope st_program_step, [], []⟩
def dd_short_rows : He.DefD := ⟨("short_rows", none), "short_rows", "short_rows", defArgs st_short_rows, defBody st_short_rows, defScope st_short_rows, [], []⟩
def dd_shortened : He.DefD := ⟨("shortened", none), "shortened", "shortened", defArgs st_shortened, defBody st_shortened, defScope st_shortened, [], []⟩
def dd_loops_in : He.DefD := ⟨("loops_in", none), "loops_in", "loops_in", defArgs st_loops_in, defBody st_loops_in, defScope st_loops_in, [], []⟩
def dd__law_draw : He.DefD := ⟨("_law_draw", none), "_law_draw", "_law_draw", defArgs st__law_draw, defBody st__law_draw, defScope st__law_draw, [], []⟩
def dd__law_kind : He.DefD := ⟨("_law_kind", none), "_law_kind", "_law_kind", defArgs st__law_kind, defBody st__law_kind, defScope st__law_kind, [], []⟩
def dd__law_tried : He.DefD := ⟨("_law_tried", none), "_law_tried", "_law_tried", defArgs st__law_tried, defBody st__law_tried, defScope st__law_tried, [], []⟩
def dd__law_loops : He.DefD := ⟨("_law_loops", none), "_law_loops", "_law_loops", defArgs st__law_loops, defBody st__law_loops, defScope st__law_loops, [], []⟩
def dd__law_none : He.DefD := ⟨("_law_none", none), "_law_none", "_law_none", defArgs st__law_none, defBody st__law_none, defScope st__law_none, [], []⟩
def dd__law_bounds_right : He.DefD := ⟨("_law_bounds_right", none), "_law_bounds_right", "_law_bounds_right", defArgs st__law_bounds_right, defBody st__law_bounds_right, defScope st__law_bounds_right, [], []⟩
def dd_law : He.DefD := ⟨("law", none), "law", "law", defArgs st_law, defBody st_law, defScope st_law, [], []⟩
def fn : List He.DefD := [dd_is_name, dd_is_whole, dd_is_among, dd_mono_degree, dd_is_mono, dd_is_poly, dd_is_small, dd_is_kind, dd_common_divisor, dd_is_fraction, dd_is_share, dd_are_pairs, dd_is_form, dd_are_named, dd_are_rows_within, dd_is_row, dd_are_rows, dd_all_rows, dd_is_program, dd_need_program, dd_program_boxes, dd_Runner___init__, dd_Runner_put, dd_Runner_go, dd_are_numbers, dd_run, dd_is_plain, dd_program_step, dd_short_rows, dd_shortened, dd_loops_in, dd__law_draw, dd__law_kind, dd__law_tried, dd__law_loops, dd__law_none, dd__law_bounds_right, dd_law]
def xh : Xh := ⟨clX, ["BadQuestion", "OutOfPlace", "TooGreat"], []⟩
def li : List (Str × D) := []
def fa : List He.Fa := [.glo "is_name", .glo "is_whole", .glo "is_among", .glo "mono_degree", .glo "is_mono", .glo "is_poly", .glo "is_small", .glo "is_kind", .glo "common_divisor", .glo "is_fraction", .glo "is_share", .glo "are_pairs", .glo "is_form", .glo "are_named", .glo "are_rows_within", .glo "is_row", .glo "are_rows", .glo "all_rows", .glo "is_program", .glo "need_program", .glo "program_boxes", .keep "law", .keep "law", .keep "law", .glo "are_numbers", .glo "run", .glo "is_plain", .glo "program_step", .glo "short_rows", .glo "shortened", .glo "loops_in", .glo "_law_draw", .glo "_law_kind", .glo "_law_tried", .glo "_law_loops", .glo "_law_none", .glo "_law_bounds_right", .glo "law", .free "ValueError", .free "abs", .free "all", .free "any", .free "bool", .free "dict", .free "int", .free "isinstance", .free "len", .free "max", .free "min", .free "range", .free "sorted", .free "str", .free "sum", .free "tuple", .free "zip", .int "GREATEST" 10000000000000000000000000000000000000000000000000000000000000000000000000000000000000000000000000000000000000000000000000000000000000000000000000000000000000000000000000000000000000000000000000000000000000000000000000000000000000000000000000000000000000000000000000000000000000000000000000000000000000000000000000000000000000000000000000000000000000000000000000000000000000000000000000000000000000000000000000000000000000000000000000000000000000000000000000000000000000000000000000000000000000000000000000000000000000000000000000000000000000000000000000000000000000000000000000000000000000000000000000000000000000000000000000000000000000000000000000000000000000000000000000000000000000000000000000000000000000000000000000000000000000000000000000000000000000000000000000000000000000000000000000000000000000000000000000000000000000000000000000000000000000000000000000000000000000000000000000000000000000000000000000000000000000000000000000000000000000000000000000000000000000000000000000000000000000000, .str "LETTERS" "abcdefghijklmnopqrstuvwxyz", .int "MOST_DEEP" 3, .int "MOST_DEGREE" 12, .int "MOST_FORMS" 40, .int "MOST_LETTERS" 8, .int "MOST_LIMIT" 20000, .int "MOST_NUMBER" 10000000000000000000000000000000000000000000000000000000000000000000000000000000000000000000000000000000000000000000000000000000000000000000000000000000000000000000000000000000000000000000000000000000000000000000000000000000000000000000000000000000000000000000000000000000000000000000000000000000000000000000000000000000000000000000000000000000000000000000000000000000000000000000000000000000000000000000000000000000000000000000000000000000000000000000000000000000000000000000000000000000000000000000000000000000000000000000000000000000000000000000000000000000000000000000000000000000000000000000000000000000000000000000000000000000000000000000000000000000000000000000000000000000000000000000000000000000000000000000000000000000000000000000000000000000000000000000000000000000000000000000000000000000000000000000000000000000000000000000000000000000000000000000000000000000000000000000000000000000000000000000000000000000000000000000000000000000000000000000000000000000000000000000000000000000000000000, .int "MOST_PAIRS_forms" 1000, .int "MOST_PAIRS_programs" 6, .int "MOST_PLACE" 99, .int "MOST_ROWS" 12, .int "MOST_TERMS" 300, .int "MOST_TOGETHER" 60, .cls "Runner", .noat "Runner" "deeds", .noat "Runner" "held", .noat "Runner" "limit", .meth "Runner" "__init__", .meth "Runner" "put", .meth "Runner" "go", .mkr "Runner", .glo "Runner"]
end DL
set_option Elab.async false
set_option linter.all false
set_option maxRecDepth 100000
set_option maxHeartbeats 0
set_option autoImplicit false
namespace DL
open PySem PySem.Spec PyProof.Rows L2
abbrev R : PySem.W.OpenRow := PySem.W.OpenLaw.row PySem.Challenge.rw_roundless_k79_programs_refused
def mkrs : List Str := ["law"]
def qsT : List Str := ["law.<locals>.<lambda>"]
abbrev hk : PySem.W.Hook := hookC fa fn li xh mkrs
def ob (s : PySem.W.SharedT) : Bool × He.AlD := obsTC fa fn li xh mkrs (HandSHeadRun.getT s)
theorem ob_eq (s : PySem.W.SharedT) : ob s = hk.obs s.abs   := obsTC_eq (HandSHeadRun.getT_eq s)
def loose : List Str := "LETTERS" :: "MOST_LETTERS" :: "NOUGHT" :: "MOST_DEGREE" :: "MOST_TERMS" :: "MOST_NUMBER" :: "MOST_PAIRS_forms" :: "MOST_PLACE" :: "GREATEST" :: "MOST_ROWS" :: "MOST_PAIRS_programs" :: "MOST_FORMS" :: "MOST_DEEP" :: "MOST_TOGETHER" :: "MOST_LIMIT" :: "MOST_COUNT" :: "MOST_BOXES" :: "MINUS" :: "LoopError" :: "BadRow" :: "BadLoop" :: "Hindered" :: "BadPaper" :: "TooGreat" :: "BadQuestion" :: "OutOfPlace" :: "Runner" :: "is_whole" :: "is_among" :: "is_name" :: "common_divisor" :: "fraction" :: "is_fraction" :: "plus" :: "times" :: "over" :: "choose" :: "is_mono" :: "mono_degree" :: "is_poly" :: "poly_of" :: "box_poly" :: "degree_of" :: "boxes_of" :: "mono_product" :: "put_together" :: "put_degree" :: "poly_put" :: "poly_value" :: "is_small" :: "is_share" :: "is_kind" :: "are_pairs" :: "is_form" :: "pairs_of" :: "form_of" :: "added" :: "summed" :: "poly_form" :: "plain_form" :: "boxes_in" :: "raised" :: "term_at" :: "form_sum" :: "form_times" :: "term_product" :: "need_product" :: "form_product" :: "moved_on" :: "at_count" :: "plain_sum" :: "plain_times" :: "poly_plain" :: "whole_poly" :: "form_put" :: "by_boxes" :: "put_behind" :: "are_named" :: "is_row" :: "are_rows_within" :: "are_rows" :: "all_rows" :: "is_program" :: "need_program" :: "polys_of" :: "program_boxes" :: "form_worth" :: "are_numbers" :: "run" :: "number_in" :: "polys_at" :: "step_of_row" :: "is_plain" :: "program_step" :: "square_one" :: "square_sum" :: "square_times" :: "square_poly" :: "poly_at" :: "slope_of" :: "crossed" :: "spots_between" :: "spots_of" :: "divided" :: "whole_roots" :: "all_roots" :: "put_forms" :: "put_plains" :: "hangs" :: "reaches" :: "in_order" :: "parts_of_step" :: "has_some" :: "is_alone" :: "bent_at" :: "square_of" :: "hinders" :: "one_form" :: "heads_of" :: "all_extras" :: "lowered" :: "ring_forms" :: "extra_of" :: "forms_by" :: "need_free" :: "forms_of_step" :: "forms_within" :: "short_row" :: "short_rows" :: "shortened" :: "loops_in" :: "_law_draw" :: "_law_kind" :: "_law_tried" :: "_law_loops" :: "_law_none" :: "_law_bounds_right" :: []
theorem run (w : World) : HandSHeadRun.RunEq R (PySem.W.view R.prog [150]) hk ob 12000 loose w := by
  intro os
  kernel_rfl
end DL
set_option Elab.async false
set_option linter.all false
set_option maxRecDepth 100000
set_option maxHeartbeats 0
set_option autoImplicit false
namespace DL
open PySem PySem.Spec PyProof.Rows L2
/-- what the text gives -/
structure Txt (K : Fg) (mg : Str → Option Value) : Prop where
  d_is_name : Fd K mg "is_name" st_is_name ["thing"]
  d_is_whole : Fd K mg "is_whole" st_is_whole ["thing"]
  d_is_among : Fd K mg "is_among" st_is_among ["thing", "least", "most"]
  d_mono_degree : Fd K mg "mono_degree" st_mono_degree ["mono"]
  d_is_mono : Fd K mg "is_mono" st_is_mono ["thing"]
  d_is_poly : Fd K mg "is_poly" st_is_poly ["thing"]
  d_is_small : Fd K mg "is_small" st_is_small ["number"]
  d_is_kind : Fd K mg "is_kind" st_is_kind ["thing"]
  d_common_divisor : Fd K mg "common_divisor" st_common_divisor ["one", "other"]
  d_is_fraction : Fd K mg "is_fraction" st_is_fraction ["thing"]
  d_is_share : Fd K mg "is_share" st_is_share ["thing"]
  d_are_pairs : Fd K mg "are_pairs" st_are_pairs ["thing", "is_first"]
  d_is_form : Fd K mg "is_form" st_is_form ["thing"]
  d_are_named : Fd K mg "are_named" st_are_named ["thing", "most", "is_good"]
  d_are_rows_within : Fd K mg "are_rows_within" st_are_rows_within ["thing", "deep"]
  d_is_row : Fd K mg "is_row" st_is_row ["thing", "deep"]
  d_are_rows : Fd K mg "are_rows" st_are_rows ["thing", "deep"]
  d_all_rows : Fd K mg "all_rows" st_all_rows ["program"]
  d_is_program : Fd K mg "is_program" st_is_program ["thing"]
  d_need_program : Fd K mg "need_program" st_need_program ["thing"]
  d_program_boxes : Fd K mg "program_boxes" st_program_boxes ["program"]
  d_Runner___init__ : Md K "Runner" "__init__" "Runner.__init__" st_Runner___init__ ["self", "held", "limit"]
  d_Runner_put : Md K "Runner" "put" "Runner.put" st_Runner_put ["self", "numbers"]
  d_Runner_go : Md K "Runner" "go" "Runner.go" st_Runner_go ["self", "rows"]
  d_are_numbers : Fd K mg "are_numbers" st_are_numbers ["thing"]
  d_run : Fd K mg "run" st_run ["program", "numbers", "limit"]
  d_is_plain : Fd K mg "is_plain" st_is_plain ["program"]
  d_program_step : Fd K mg "program_step" st_program_step ["program"]
  d_short_rows : Fd K mg "short_rows" st_short_rows ["rows"]
  d_shortened : Fd K mg "shortened" st_shortened ["program"]
  d_loops_in : Fd K mg "loops_in" st_loops_in ["program"]
  d__law_draw : Fd K mg "_law_draw" st__law_draw ["_law_script", "_law_tape", "_law_many"]
  d__law_kind : Fd K mg "_law_kind" st__law_kind ["_law_e"]
  d__law_tried : Fd K mg "_law_tried" st__law_tried ["_law_deed"]
  d__law_loops : Fd K mg "_law_loops" st__law_loops ["_law_many", "_law_within"]
  d__law_none : Fd K mg "_law_none" st__law_none ["_law_script", "_law_tape"]
  d__law_bounds_right : Fd K mg "_law_bounds_right" st__law_bounds_right []
  d_law : Fd K mg "law" st_law ["_law_script"]
  cf_Runner_deeds : ClF K "Runner" "deeds"
  cf_Runner_held : ClF K "Runner" "held"
  cf_Runner_limit : ClF K "Runner" "limit"
  mk_Runner : MkF K mg "Runner"
  n_ValueError : mg "ValueError" = none
  n_abs : mg "abs" = none
  n_all : mg "all" = none
  n_any : mg "any" = none
  n_bool : mg "bool" = none
  n_dict : mg "dict" = none
  n_int : mg "int" = none
  n_isinstance : mg "isinstance" = none
  n_len : mg "len" = none
  n_max : mg "max" = none
  n_min : mg "min" = none
  n_range : mg "range" = none
  n_sorted : mg "sorted" = none
  n_str : mg "str" = none
  n_sum : mg "sum" = none
  n_tuple : mg "tuple" = none
  n_zip : mg "zip" = none
  g_GREATEST : ∃ t, mg "GREATEST" = some (.int 10000000000000000000000000000000000000000000000000000000000000000000000000000000000000000000000000000000000000000000000000000000000000000000000000000000000000000000000000000000000000000000000000000000000000000000000000000000000000000000000000000000000000000000000000000000000000000000000000000000000000000000000000000000000000000000000000000000000000000000000000000000000000000000000000000000000000000000000000000000000000000000000000000000000000000000000000000000000000000000000000000000000000000000000000000000000000000000000000000000000000000000000000000000000000000000000000000000000000000000000000000000000000000000000000000000000000000000000000000000000000000000000000000000000000000000000000000000000000000000000000000000000000000000000000000000000000000000000000000000000000000000000000000000000000000000000000000000000000000000000000000000000000000000000000000000000000000000000000000000000000000000000000000000000000000000000000000000000000000000000000000000000000000000000000000000000000000 t)
  g_LETTERS : ∃ t, mg "LETTERS" = some (.str "abcdefghijklmnopqrstuvwxyz" t)
  g_MOST_DEEP : ∃ t, mg "MOST_DEEP" = some (.int 3 t)
  g_MOST_DEGREE : ∃ t, mg "MOST_DEGREE" = some (.int 12 t)
  g_MOST_FORMS : ∃ t, mg "MOST_FORMS" = some (.int 40 t)
  g_MOST_LETTERS : ∃ t, mg "MOST_LETTERS" = some (.int 8 t)
  g_MOST_LIMIT : ∃ t, mg "MOST_LIMIT" = some (.int 20000 t)
  g_MOST_NUMBER : ∃ t, mg "MOST_NUMBER" = some (.int 10000000000000000000000000000000000000000000000000000000000000000000000000000000000000000000000000000000000000000000000000000000000000000000000000000000000000000000000000000000000000000000000000000000000000000000000000000000000000000000000000000000000000000000000000000000000000000000000000000000000000000000000000000000000000000000000000000000000000000000000000000000000000000000000000000000000000000000000000000000000000000000000000000000000000000000000000000000000000000000000000000000000000000000000000000000000000000000000000000000000000000000000000000000000000000000000000000000000000000000000000000000000000000000000000000000000000000000000000000000000000000000000000000000000000000000000000000000000000000000000000000000000000000000000000000000000000000000000000000000000000000000000000000000000000000000000000000000000000000000000000000000000000000000000000000000000000000000000000000000000000000000000000000000000000000000000000000000000000000000000000000000000000000000000000000000000000000 t)
  g_MOST_PAIRS_forms : ∃ t, mg "MOST_PAIRS_forms" = some (.int 1000 t)
  g_MOST_PAIRS_programs : ∃ t, mg "MOST_PAIRS_programs" = some (.int 6 t)
  g_MOST_PLACE : ∃ t, mg "MOST_PLACE" = some (.int 99 t)
  g_MOST_ROWS : ∃ t, mg "MOST_ROWS" = some (.int 12 t)
  g_MOST_TERMS : ∃ t, mg "MOST_TERMS" = some (.int 300 t)
  g_MOST_TOGETHER : ∃ t, mg "MOST_TOGETHER" = some (.int 60 t)
  dig : NoDig K
  xc : Xcl K mg clX
  xn : ∀ f ∈ flds, ∀ c ∈ clX, PySem.W.findIn K (.ref (He.ga K c)) f = some none
  xl : LeC K (He.ga K "LoopError")
  xa : mg "LoopError" = some (.ref (He.ga K "LoopError"))
  r_BadQuestion : R0 K mg "BadQuestion"
  r_OutOfPlace : R0 K mg "OutOfPlace"
  r_TooGreat : R0 K mg "TooGreat"
/-- with the makers of lambdas -/
structure TxM (K : Fg) (mg : Str → Option Value) (base : Heap) (cs : Nat → Addr × Addr) : Prop where
  txt : Txt K mg
  mk_0 : Maker K mg base "law" (cs 0)
section
variable {P : Program} {w : World} {K : Fg} {mg : Str → Option Value} {base : Heap} {cs : Nat → Addr × Addr}
theorem sc_is_name : FnScope ["thing", "sign"] ["thing"] (defScope st_is_name) := ⟨rfl, rfl, rfl, by decide +kernel, rfl, by decide +kernel, by decide +kernel⟩
theorem ok_is_name (T : Txt K mg) : Fn P w K mg base "is_name" 1 1 m_is_name := fn_mk (N := ["thing", "sign"]) (ps := ["thing"]) (r := b_is_name) T.d_is_name sc_is_name fun f cdv A outer s H E en tk =>
  have nd := sc_is_name.nd
  (psds_cons (psd_if (pb_w (pw_orD (pb_not (pb_tru (pd_callB (hv := bv_isinstance) b_isi T.n_isinstance (pds_cons (pd_var 0) (pds_cons (pd_ty (hv := bv_str) T.n_str) pds_nil))))) (pw_or1D (pb_not (pd_chain2 (g_leU en.u64) (g_leU en.u64) pd_int (pd_callB (hv := bv_len) b_len T.n_len (pds_cons (pd_var 0) pds_nil)) (pd_giE T.g_MOST_LETTERS)).2)))) (psds_one (psd_ret pd_bl)) psds_nil)
    (psds_one (psd_ret (pd_callB (hv := bv_all) (b_all rfl) T.n_all (pds_cons (pd_keep (pf_lc rfl nd (pid_seq (pd_var 0)) (own := [("sign", 1)]) (blkOk_by (by kernel_rfl)) (plc_no (fun _ _ _ _ _ => (pgx_name 1 nd)) (fun _ _ _ _ _ => (pd_cmp g_in1 (pd_var 1) (pd_gsE T.g_LETTERS) (by rfl)))))) pds_nil)))))
theorem sc_is_whole : FnScope ["thing"] ["thing"] (defScope st_is_whole) := ⟨rfl, rfl, rfl, by decide +kernel, rfl, by decide +kernel, by decide +kernel⟩
theorem ok_is_whole (T : Txt K mg) : Fn P w K mg base "is_whole" 1 1 m_is_whole := fn_mk (N := ["thing"]) (ps := ["thing"]) (r := b_is_whole) T.d_is_whole sc_is_whole fun f cdv A outer s H E en tk =>
  have nd := sc_is_whole.nd
  (psds_one (psd_ret (pd_and (pd_callB (hv := bv_isinstance) b_isi T.n_isinstance (pds_cons (pd_var 0) (pds_cons (pd_ty (hv := bv_int) T.n_int) pds_nil))) (pd_one (pd_not (pd_callB (hv := bv_isinstance) b_isi T.n_isinstance (pds_cons (pd_var 0) (pds_cons (pd_ty (hv := bv_bool) T.n_bool) pds_nil))))))))
theorem sc_is_among : FnScope ["thing", "least", "most"] ["thing", "least", "most"] (defScope st_is_among) := ⟨rfl, rfl, rfl, by decide +kernel, rfl, by decide +kernel, by decide +kernel⟩
theorem ok_is_among (T : Txt K mg) : Fn P w K mg base "is_among" 3 2 m_is_among := fn_mk (N := ["thing", "least", "most"]) (ps := ["thing", "least", "most"]) (r := b_is_among) T.d_is_among sc_is_among fun f cdv A outer s H E en tk =>
  have nd := sc_is_among.nd
  (psds_one (psd_ret (pd_and (pd_fn (ok_is_whole T) (en.room.mono (by decide)) en.gu tk (pds_cons (pd_var 0) pds_nil)) (pd_one (pd_chain2 (g_leU en.u64) (g_leU en.u64) (pd_var 1) (pd_var 0) (pd_var 2)).1))))
theorem sc_mono_degree : FnScope ["mono", "box", "power"] ["mono"] (defScope st_mono_degree) := ⟨rfl, rfl, rfl, by decide +kernel, rfl, by decide +kernel, by decide +kernel⟩
theorem ok_mono_degree (T : Txt K mg) : Fn P w K mg base "mono_degree" 1 1 m_mono_degree := fn_mk (N := ["mono", "box", "power"]) (ps := ["mono"]) (r := b_mono_degree) T.d_mono_degree sc_mono_degree fun f cdv A outer s H E en tk =>
  have nd := sc_mono_degree.nd
  (psds_one (psd_ret (pd_callB (hv := bv_sum) (b_sum rfl) T.n_sum (pds_cons (pd_keep (pf_lc rfl nd (pid_seq (pd_var 0)) (own := [("box", 1), ("power", 2)]) (blkOk_by (by kernel_rfl)) (plc_noT rfl (fun _ _ _ _ _ => (pgxs_cons (pgx_name 1 nd) (pgxs_cons (pgx_name 2 nd) pgxs_nil))) (fun _ _ _ _ _ => (pd_var 2))))) pds_nil))))
theorem sc_is_mono : FnScope ["thing", "pair", "names", "one", "other"] ["thing"] (defScope st_is_mono) := ⟨rfl, rfl, rfl, by decide +kernel, rfl, by decide +kernel, by decide +kernel⟩
theorem ok_is_mono (T : Txt K mg) : Fn P w K mg base "is_mono" 1 3 m_is_mono := fn_mk (N := ["thing", "pair", "names", "one", "other"]) (ps := ["thing"]) (r := b_is_mono) T.d_is_mono sc_is_mono fun f cdv A outer s H E en tk =>
  have nd := sc_is_mono.nd
  (psds_cons (psd_if (pb_not (pb_tru (pd_callB (hv := bv_isinstance) b_isi T.n_isinstance (pds_cons (pd_var 0) (pds_cons (pd_ty (hv := bv_tuple) T.n_tuple) pds_nil))))) (psds_one (psd_ret pd_bl)) psds_nil)
    (psds_cons (psd_for en.hp rfl (pid_seq (pd_var 0)) (pgd_name 1 nd).pg (psds_cons (psd_if (pb_w (pw_orD (pb_not (pb_tru (pd_callB (hv := bv_isinstance) b_isi T.n_isinstance (pds_cons (pd_var 1) (pds_cons (pd_ty (hv := bv_tuple) T.n_tuple) pds_nil))))) (pw_orD (pb_cmp (g_ne en.u64) (pd_callB (hv := bv_len) b_len T.n_len (pds_cons (pd_var 1) pds_nil)) pd_int (by rfl)) (pw_or1D (pb_not (pb_tru (pd_fn (ok_is_name T) (en.room.mono (by decide)) en.gu tk (pds_cons (pd_ix (pd_var 1) pd_int) pds_nil)))))))) (psds_one (psd_ret pd_bl)) psds_nil)
    (psds_one (psd_if (pb_not (pb_tru (pd_fn (ok_is_among T) (en.room.mono (by decide)) en.gu tk (pds_cons (pd_ix (pd_var 1) pd_int) (pds_cons pd_int (pds_cons (pd_giE T.g_MOST_DEGREE) pds_nil)))))) (psds_one (psd_ret pd_bl)) psds_nil))))
    (psds_cons (psd_setLc (i := 2) rfl nd (pid_seq (pd_var 0)) (own := [("pair", 1)]) (blkOk_by (by kernel_rfl)) (plc_no (fun _ _ _ _ _ => (pgx_name 1 nd)) (fun _ _ _ _ _ => (pd_ix (pd_var 1) pd_int))) (sw_true rfl rfl rfl rfl)).1
    (psds_one (psd_ret (pd_and (pd_callB (hv := bv_all) (b_all rfl) T.n_all (pds_cons (pd_keep (pf_lc rfl nd (pid_zipA T.n_zip (pds_cons (pd_var 2) (pds_cons (pd_cut (pd_var 2) (pod_some pd_int) pod_none) pds_nil))) (own := [("one", 3), ("other", 4)]) (blkOk_by (by kernel_rfl)) (plc_noT rfl (fun _ _ _ _ _ => (pgxs_cons (pgx_name 3 nd) (pgxs_cons (pgx_name 4 nd) pgxs_nil))) (fun _ _ _ _ _ => (pd_cmp (g_ltU en.u64) (pd_var 3) (pd_var 4) (by rfl)))))) pds_nil)) (pd_one (pd_cmp (g_leU en.u64) (pd_fn (ok_mono_degree T) (en.room.mono (by decide)) en.gu tk (pds_cons (pd_var 0) pds_nil)) (pd_giE T.g_MOST_DEGREE) (by rfl)))))))))
theorem sc_is_poly : FnScope ["thing", "pair", "monos", "one", "other"] ["thing"] (defScope st_is_poly) := ⟨rfl, rfl, rfl, by decide +kernel, rfl, by decide +kernel, by decide +kernel⟩
theorem ok_is_poly (T : Txt K mg) : Fn P w K mg base "is_poly" 1 4 m_is_poly := fn_mk (N := ["thing", "pair", "monos", "one", "other"]) (ps := ["thing"]) (r := b_is_poly) T.d_is_poly sc_is_poly fun f cdv A outer s H E en tk =>
  have nd := sc_is_poly.nd
  (psds_cons (psd_if (pb_w (pw_orD (pb_not (pb_tru (pd_callB (hv := bv_isinstance) b_isi T.n_isinstance (pds_cons (pd_var 0) (pds_cons (pd_ty (hv := bv_tuple) T.n_tuple) pds_nil))))) (pw_or1D (pb_cmp (g_gtU en.u64) (pd_callB (hv := bv_len) b_len T.n_len (pds_cons (pd_var 0) pds_nil)) (pd_giE T.g_MOST_TERMS) (by rfl))))) (psds_one (psd_ret pd_bl)) psds_nil)
    (psds_cons (psd_for en.hp rfl (pid_seq (pd_var 0)) (pgd_name 1 nd).pg (psds_cons (psd_if (pb_w (pw_orD (pb_not (pb_tru (pd_callB (hv := bv_isinstance) b_isi T.n_isinstance (pds_cons (pd_var 1) (pds_cons (pd_ty (hv := bv_tuple) T.n_tuple) pds_nil))))) (pw_orD (pb_cmp (g_ne en.u64) (pd_callB (hv := bv_len) b_len T.n_len (pds_cons (pd_var 1) pds_nil)) pd_int (by rfl)) (pw_or1D (pb_not (pb_tru (pd_fn (ok_is_mono T) (en.room.mono (by decide)) en.gu tk (pds_cons (pd_ix (pd_var 1) pd_int) pds_nil)))))))) (psds_one (psd_ret pd_bl)) psds_nil)
    (psds_one (psd_if (pb_w (pw_orD (pb_not (pb_tru (pd_fn (ok_is_whole T) (en.room.mono (by decide)) en.gu tk (pds_cons (pd_ix (pd_var 1) pd_int) pds_nil)))) (pw_orD (pb_cmp (g_eq en.u64) (pd_ix (pd_var 1) pd_int) pd_int (by rfl)) (pw_or1D (pb_cmp (g_gtU en.u64) (pd_callB (hv := bv_abs) b_abs T.n_abs (pds_cons (pd_ix (pd_var 1) pd_int) pds_nil)) (pd_giE T.g_MOST_NUMBER) (by rfl)))))) (psds_one (psd_ret pd_bl)) psds_nil))))
    (psds_cons (psd_setLc (i := 2) rfl nd (pid_seq (pd_var 0)) (own := [("pair", 1)]) (blkOk_by (by kernel_rfl)) (plc_no (fun _ _ _ _ _ => (pgx_name 1 nd)) (fun _ _ _ _ _ => (pd_ix (pd_var 1) pd_int))) (sw_true rfl rfl rfl rfl)).1
    (psds_one (psd_ret (pd_callB (hv := bv_all) (b_all rfl) T.n_all (pds_cons (pd_keep (pf_lc rfl nd (pid_zipA T.n_zip (pds_cons (pd_var 2) (pds_cons (pd_cut (pd_var 2) (pod_some pd_int) pod_none) pds_nil))) (own := [("one", 3), ("other", 4)]) (blkOk_by (by kernel_rfl)) (plc_noT rfl (fun _ _ _ _ _ => (pgxs_cons (pgx_name 3 nd) (pgxs_cons (pgx_name 4 nd) pgxs_nil))) (fun _ _ _ _ _ => (pd_cmp (g_ltU en.u64) (pd_var 3) (pd_var 4) (by rfl)))))) pds_nil)))))))
theorem sc_is_small : FnScope ["number"] ["number"] (defScope st_is_small) := ⟨rfl, rfl, rfl, by decide +kernel, rfl, by decide +kernel, by decide +kernel⟩
theorem ok_is_small (T : Txt K mg) : Fn P w K mg base "is_small" 1 1 m_is_small := fn_mk (N := ["number"]) (ps := ["number"]) (r := b_is_small) T.d_is_small sc_is_small fun f cdv A outer s H E en tk =>
  have nd := sc_is_small.nd
  (psds_one (psd_ret (pd_chain2 (g_leU en.u64) (g_leU en.u64) (pd_bin g_sub pd_int (pd_giE T.g_GREATEST)) (pd_var 0) (pd_giE T.g_GREATEST)).1))
theorem sc_is_kind : FnScope ["thing"] ["thing"] (defScope st_is_kind) := ⟨rfl, rfl, rfl, by decide +kernel, rfl, by decide +kernel, by decide +kernel⟩
theorem ok_is_kind (T : Txt K mg) : Fn P w K mg base "is_kind" 1 4 m_is_kind := fn_mk (N := ["thing"]) (ps := ["thing"]) (r := b_is_kind) T.d_is_kind sc_is_kind fun f cdv A outer s H E en tk =>
  have nd := sc_is_kind.nd
  (psds_cons (psd_if (pb_w (pw_orD (pb_not (pb_tru (pd_callB (hv := bv_isinstance) b_isi T.n_isinstance (pds_cons (pd_var 0) (pds_cons (pd_ty (hv := bv_tuple) T.n_tuple) pds_nil))))) (pw_orD (pb_cmp (g_ne en.u64) (pd_callB (hv := bv_len) b_len T.n_len (pds_cons (pd_var 0) pds_nil)) pd_int (by rfl)) (pw_or1D (pb_not (pb_tru (pd_fn (ok_is_mono T) (en.room.mono (by decide)) en.gu tk (pds_cons (pd_ix (pd_var 0) pd_int) pds_nil)))))))) (psds_one (psd_ret pd_bl)) psds_nil)
    (psds_one (psd_ret (pd_and (pd_fn (ok_is_among T) (en.room.mono (by decide)) en.gu tk (pds_cons (pd_ix (pd_var 0) pd_int) (pds_cons pd_int (pds_cons (pd_giE T.g_MOST_PLACE) pds_nil)))) (pd_and (pd_fn (ok_is_whole T) (en.room.mono (by decide)) en.gu tk (pds_cons (pd_ix (pd_var 0) pd_int) pds_nil)) (pd_one (pd_fn (ok_is_small T) (en.room.mono (by decide)) en.gu tk (pds_cons (pd_ix (pd_var 0) pd_int) pds_nil))))))))
theorem sc_common_divisor : FnScope ["one", "other"] ["one", "other"] (defScope st_common_divisor) := ⟨rfl, rfl, rfl, by decide +kernel, rfl, by decide +kernel, by decide +kernel⟩
theorem ok_common_divisor (T : Txt K mg) : Fn P w K mg base "common_divisor" 2 1 m_common_divisor := fn_mk (N := ["one", "other"]) (ps := ["one", "other"]) (r := b_common_divisor) T.d_common_divisor sc_common_divisor fun f cdv A outer s H E en tk =>
  have nd := sc_common_divisor.nd
  (psds_cons (psd_par rfl nd (pds_cons (pd_callB (hv := bv_abs) b_abs T.n_abs (pds_cons (pd_var 0) pds_nil)) (pds_cons (pd_callB (hv := bv_abs) b_abs T.n_abs (pds_cons (pd_var 1) pds_nil)) pds_nil)))
    (psds_cons (psd_while fuel_common_divisor_0 en.hp (pb_cmp (g_gtU en.u64) (pd_var 1) pd_int (by rfl)) (psds_one (psd_par rfl nd (pds_cons (pd_var 1) (pds_cons (pd_bin g_mod (pd_var 0) (pd_var 1)) pds_nil)))))
    (psds_one (psd_ret (pd_var 0)))))
theorem sc_is_fraction : FnScope ["thing"] ["thing"] (defScope st_is_fraction) := ⟨rfl, rfl, rfl, by decide +kernel, rfl, by decide +kernel, by decide +kernel⟩
theorem ok_is_fraction (T : Txt K mg) : Fn P w K mg base "is_fraction" 1 2 m_is_fraction := fn_mk (N := ["thing"]) (ps := ["thing"]) (r := b_is_fraction) T.d_is_fraction sc_is_fraction fun f cdv A outer s H E en tk =>
  have nd := sc_is_fraction.nd
  (psds_cons (psd_if (pb_w (pw_orD (pb_not (pb_tru (pd_callB (hv := bv_isinstance) b_isi T.n_isinstance (pds_cons (pd_var 0) (pds_cons (pd_ty (hv := bv_tuple) T.n_tuple) pds_nil))))) (pw_orD (pb_cmp (g_ne en.u64) (pd_callB (hv := bv_len) b_len T.n_len (pds_cons (pd_var 0) pds_nil)) pd_int (by rfl)) (pw_orD (pb_not (pb_tru (pd_fn (ok_is_whole T) (en.room.mono (by decide)) en.gu tk (pds_cons (pd_ix (pd_var 0) pd_int) pds_nil)))) (pw_or1D (pb_not (pb_tru (pd_fn (ok_is_whole T) (en.room.mono (by decide)) en.gu tk (pds_cons (pd_ix (pd_var 0) pd_int) pds_nil))))))))) (psds_one (psd_ret pd_bl)) psds_nil)
    (psds_one (psd_ret (pd_and (pd_cmp (g_gtU en.u64) (pd_ix (pd_var 0) pd_int) pd_int (by rfl)) (pd_one (pd_cmp (g_eq en.u64) (pd_fn (ok_common_divisor T) (en.room.mono (by decide)) en.gu tk (pds_cons (pd_ix (pd_var 0) pd_int) (pds_cons (pd_ix (pd_var 0) pd_int) pds_nil))) pd_int (by rfl)))))))
theorem sc_is_share : FnScope ["thing"] ["thing"] (defScope st_is_share) := ⟨rfl, rfl, rfl, by decide +kernel, rfl, by decide +kernel, by decide +kernel⟩
theorem ok_is_share (T : Txt K mg) : Fn P w K mg base "is_share" 1 3 m_is_share := fn_mk (N := ["thing"]) (ps := ["thing"]) (r := b_is_share) T.d_is_share sc_is_share fun f cdv A outer s H E en tk =>
  have nd := sc_is_share.nd
  (psds_one (psd_ret (pd_and (pd_fn (ok_is_fraction T) (en.room.mono (by decide)) en.gu tk (pds_cons (pd_var 0) pds_nil)) (pd_and (pd_cmp (g_ne en.u64) (pd_ix (pd_var 0) pd_int) pd_int (by rfl)) (pd_and (pd_fn (ok_is_small T) (en.room.mono (by decide)) en.gu tk (pds_cons (pd_ix (pd_var 0) pd_int) pds_nil)) (pd_one (pd_fn (ok_is_small T) (en.room.mono (by decide)) en.gu tk (pds_cons (pd_ix (pd_var 0) pd_int) pds_nil))))))))
theorem sc_are_pairs : FnScope ["thing", "is_first", "pair", "one", "other"] ["thing", "is_first"] (defScope st_are_pairs) := ⟨rfl, rfl, rfl, by decide +kernel, rfl, by decide +kernel, by decide +kernel⟩
theorem ok_are_pairs (T : Txt K mg) : Fn P w K mg base "are_pairs" 2 5 m_are_pairs := fn_mk (N := ["thing", "is_first", "pair", "one", "other"]) (ps := ["thing", "is_first"]) (r := b_are_pairs) T.d_are_pairs sc_are_pairs fun f cdv A outer s H E en tk =>
  have nd := sc_are_pairs.nd
  (psds_cons (psd_if (pb_w (pw_orD (pb_not (pb_tru (pd_callB (hv := bv_isinstance) b_isi T.n_isinstance (pds_cons (pd_var 0) (pds_cons (pd_ty (hv := bv_tuple) T.n_tuple) pds_nil))))) (pw_or1D (pb_cmp (g_gtU en.u64) (pd_callB (hv := bv_len) b_len T.n_len (pds_cons (pd_var 0) pds_nil)) (pd_giE T.g_MOST_PAIRS_forms) (by rfl))))) (psds_one (psd_ret pd_bl)) psds_nil)
    (psds_cons (psd_for en.hp rfl (pid_seq (pd_var 0)) (pgd_name 2 nd).pg (psds_one (psd_if (pb_w (pw_orD (pb_not (pb_tru (pd_callB (hv := bv_isinstance) b_isi T.n_isinstance (pds_cons (pd_var 2) (pds_cons (pd_ty (hv := bv_tuple) T.n_tuple) pds_nil))))) (pw_orD (pb_cmp (g_ne en.u64) (pd_callB (hv := bv_len) b_len T.n_len (pds_cons (pd_var 2) pds_nil)) pd_int (by rfl)) (pw_orD (pb_not (pb_tru (pd_callV (hall_cons (ok_is_kind T) (en.room.mono (by decide)) (hall_cons (ok_is_mono T) (en.room.mono (by decide)) hall_nil)) en.gu tk (pds_cons (pd_ix (pd_var 2) pd_int) pds_nil)))) (pw_or1D (pb_not (pb_tru (pd_fn (ok_is_share T) (en.room.mono (by decide)) en.gu tk (pds_cons (pd_ix (pd_var 2) pd_int) pds_nil))))))))) (psds_one (psd_ret pd_bl)) psds_nil)))
    (psds_one (psd_ret (pd_callB (hv := bv_all) (b_all rfl) T.n_all (pds_cons (pd_keep (pf_lc rfl nd (pid_zipA T.n_zip (pds_cons (pd_var 0) (pds_cons (pd_cut (pd_var 0) (pod_some pd_int) pod_none) pds_nil))) (own := [("one", 3), ("other", 4)]) (blkOk_by (by kernel_rfl)) (plc_noT rfl (fun _ _ _ _ _ => (pgxs_cons (pgx_name 3 nd) (pgxs_cons (pgx_name 4 nd) pgxs_nil))) (fun _ _ _ _ _ => (pd_cmp (g_ltU en.u64) (pd_ix (pd_var 3) pd_int) (pd_ix (pd_var 4) pd_int) (by rfl)))))) pds_nil))))))
theorem sc_is_form : FnScope ["thing"] ["thing"] (defScope st_is_form) := ⟨rfl, rfl, rfl, by decide +kernel, rfl, by decide +kernel, by decide +kernel⟩
theorem ok_is_form (T : Txt K mg) : Fn P w K mg base "is_form" 1 6 m_is_form := fn_mk (N := ["thing"]) (ps := ["thing"]) (r := b_is_form) T.d_is_form sc_is_form fun f cdv A outer s H E en tk =>
  have nd := sc_is_form.nd
  (psds_one (psd_ret (pd_fn (ok_are_pairs T) (en.room.mono (by decide)) en.gu tk (pds_cons (pd_var 0) (pds_cons (pd_fnv (ok_is_kind T)) pds_nil)))))
theorem sc_are_named : FnScope ["thing", "most", "is_good", "pair", "names", "one", "other"] ["thing", "most", "is_good"] (defScope st_are_named) := ⟨rfl, rfl, rfl, by decide +kernel, rfl, by decide +kernel, by decide +kernel⟩
theorem ok_are_named (T : Txt K mg) : Fn P w K mg base "are_named" 3 7 m_are_named := fn_mk (N := ["thing", "most", "is_good", "pair", "names", "one", "other"]) (ps := ["thing", "most", "is_good"]) (r := b_are_named) T.d_are_named sc_are_named fun f cdv A outer s H E en tk =>
  have nd := sc_are_named.nd
  (psds_cons (psd_if (pb_w (pw_orD (pb_not (pb_tru (pd_callB (hv := bv_isinstance) b_isi T.n_isinstance (pds_cons (pd_var 0) (pds_cons (pd_ty (hv := bv_tuple) T.n_tuple) pds_nil))))) (pw_or1D (pb_not (pd_chain2 (g_leU en.u64) (g_leU en.u64) pd_int (pd_callB (hv := bv_len) b_len T.n_len (pds_cons (pd_var 0) pds_nil)) (pd_var 1)).2)))) (psds_one (psd_ret pd_bl)) psds_nil)
    (psds_cons (psd_for en.hp rfl (pid_seq (pd_var 0)) (pgd_name 3 nd).pg (psds_one (psd_if (pb_w (pw_orD (pb_not (pb_tru (pd_callB (hv := bv_isinstance) b_isi T.n_isinstance (pds_cons (pd_var 3) (pds_cons (pd_ty (hv := bv_tuple) T.n_tuple) pds_nil))))) (pw_orD (pb_cmp (g_ne en.u64) (pd_callB (hv := bv_len) b_len T.n_len (pds_cons (pd_var 3) pds_nil)) pd_int (by rfl)) (pw_orD (pb_not (pb_tru (pd_fn (ok_is_name T) (en.room.mono (by decide)) en.gu tk (pds_cons (pd_ix (pd_var 3) pd_int) pds_nil)))) (pw_or1D (pb_not (pb_tru (pd_callV (hall_cons (ok_is_poly T) (en.room.mono (by decide)) (hall_cons (ok_is_form T) (en.room.mono (by decide)) hall_nil)) en.gu tk (pds_cons (pd_ix (pd_var 3) pd_int) pds_nil))))))))) (psds_one (psd_ret pd_bl)) psds_nil)))
    (psds_cons (psd_setLc (i := 4) rfl nd (pid_seq (pd_var 0)) (own := [("pair", 3)]) (blkOk_by (by kernel_rfl)) (plc_no (fun _ _ _ _ _ => (pgx_name 3 nd)) (fun _ _ _ _ _ => (pd_ix (pd_var 3) pd_int))) (sw_true rfl rfl rfl rfl)).1
    (psds_one (psd_ret (pd_callB (hv := bv_all) (b_all rfl) T.n_all (pds_cons (pd_keep (pf_lc rfl nd (pid_zipA T.n_zip (pds_cons (pd_var 4) (pds_cons (pd_cut (pd_var 4) (pod_some pd_int) pod_none) pds_nil))) (own := [("one", 5), ("other", 6)]) (blkOk_by (by kernel_rfl)) (plc_noT rfl (fun _ _ _ _ _ => (pgxs_cons (pgx_name 5 nd) (pgxs_cons (pgx_name 6 nd) pgxs_nil))) (fun _ _ _ _ _ => (pd_cmp (g_ltU en.u64) (pd_var 5) (pd_var 6) (by rfl)))))) pds_nil)))))))
theorem sc_are_rows_within : FnScope ["thing", "deep"] ["thing", "deep"] (defScope st_are_rows_within) := ⟨rfl, rfl, rfl, by decide +kernel, rfl, by decide +kernel, by decide +kernel⟩
theorem okp_are_rows_within (T : Txt K mg) (n : Nat) {rec : Mir} (hrec : Fn P w K mg base "are_rows" 2 (9 + 3 * n) rec) : Fn P w K mg base "are_rows_within" 2 (9 + 3 * n + 1) (mp_are_rows_within rec) :=
  fn_mk (k := 9 + 3 * n + 0) (N := ["thing", "deep"]) (ps := ["thing", "deep"]) (r := b_are_rows_within rec) T.d_are_rows_within sc_are_rows_within fun f cdv A outer s H E en tk =>
  have nd := sc_are_rows_within.nd
  (psds_one (psd_ret (pd_and (pd_cmp (g_gtU en.u64) (pd_var 1) pd_int (by rfl)) (pd_and (pd_cmp (g_ne en.u64) (pd_var 0) (pd_tup pds_nil) (by rfl)) (pd_one (pd_fn hrec (en.room.mono (by omega)) en.gu tk (pds_cons (pd_var 0) (pds_cons (pd_bin g_sub (pd_var 1) pd_int) pds_nil))))))))
theorem sc_is_row : FnScope ["thing", "deep"] ["thing", "deep"] (defScope st_is_row) := ⟨rfl, rfl, rfl, by decide +kernel, rfl, by decide +kernel, by decide +kernel⟩
theorem okp_is_row (T : Txt K mg) (n : Nat) {rec : Mir} (hrec : Fn P w K mg base "are_rows" 2 (9 + 3 * n) rec) : Fn P w K mg base "is_row" 2 (9 + 3 * n + 2) (mp_is_row rec) :=
  fn_mk (k := 9 + 3 * n + 1) (N := ["thing", "deep"]) (ps := ["thing", "deep"]) (r := b_is_row rec) T.d_is_row sc_is_row fun f cdv A outer s H E en tk =>
  have nd := sc_is_row.nd
  (psds_cons (psd_if (pb_w (pw_orD (pb_not (pb_tru (pd_callB (hv := bv_isinstance) b_isi T.n_isinstance (pds_cons (pd_var 0) (pds_cons (pd_ty (hv := bv_tuple) T.n_tuple) pds_nil))))) (pw_orD (pb_not (pd_chain2 (g_leU en.u64) (g_leU en.u64) pd_int (pd_callB (hv := bv_len) b_len T.n_len (pds_cons (pd_var 0) pds_nil)) pd_int).2) (pw_or1D (pb_not (pb_tru (pd_callB (hv := bv_isinstance) b_isi T.n_isinstance (pds_cons (pd_ix (pd_var 0) pd_int) (pds_cons (pd_ty (hv := bv_str) T.n_str) pds_nil))))))))) (psds_one (psd_ret pd_bl)) psds_nil)
    (psds_cons (psd_if (pb_cmp (g_eq en.u64) (pd_ix (pd_var 0) pd_int) pd_str (by rfl)) (psds_one (psd_ret (pd_and (pd_cmp (g_eq en.u64) (pd_callB (hv := bv_len) b_len T.n_len (pds_cons (pd_var 0) pds_nil)) pd_int (by rfl)) (pd_and (pd_fn (ok_is_name T) (en.room.mono (by omega)) en.gu tk (pds_cons (pd_ix (pd_var 0) pd_int) pds_nil)) (pd_one (pd_fn (ok_is_poly T) (en.room.mono (by omega)) en.gu tk (pds_cons (pd_ix (pd_var 0) pd_int) pds_nil))))))) psds_nil)
    (psds_cons (psd_if (pb_cmp (g_eq en.u64) (pd_ix (pd_var 0) pd_int) pd_str (by rfl)) (psds_one (psd_ret (pd_and (pd_cmp (g_eq en.u64) (pd_callB (hv := bv_len) b_len T.n_len (pds_cons (pd_var 0) pds_nil)) pd_int (by rfl)) (pd_one (pd_fn (ok_are_named T) (en.room.mono (by omega)) en.gu tk (pds_cons (pd_ix (pd_var 0) pd_int) (pds_cons (pd_giE T.g_MOST_PAIRS_programs) (pds_cons (pd_fnv (ok_is_poly T)) pds_nil)))))))) psds_nil)
    (psds_cons (psd_if (pb_cmp (g_eq en.u64) (pd_ix (pd_var 0) pd_int) pd_str (by rfl)) (psds_one (psd_ret (pd_and (pd_cmp (g_eq en.u64) (pd_callB (hv := bv_len) b_len T.n_len (pds_cons (pd_var 0) pds_nil)) pd_int (by rfl)) (pd_and (pd_fn (ok_is_poly T) (en.room.mono (by omega)) en.gu tk (pds_cons (pd_ix (pd_var 0) pd_int) pds_nil)) (pd_one (pd_fn (okp_are_rows_within T n hrec) (en.room.mono (by omega)) en.gu tk (pds_cons (pd_ix (pd_var 0) pd_int) (pds_cons (pd_var 1) pds_nil)))))))) psds_nil)
    (psds_cons (psd_if (pb_w (pw_orD (pb_cmp (g_ne en.u64) (pd_ix (pd_var 0) pd_int) pd_str (by rfl)) (pw_orD (pb_cmp (g_ne en.u64) (pd_callB (hv := bv_len) b_len T.n_len (pds_cons (pd_var 0) pds_nil)) pd_int (by rfl)) (pw_or1D (pb_not (pb_tru (pd_fn (ok_is_poly T) (en.room.mono (by omega)) en.gu tk (pds_cons (pd_ix (pd_var 0) pd_int) pds_nil)))))))) (psds_one (psd_ret pd_bl)) psds_nil)
    (psds_one (psd_ret (pd_and (pd_fn (ok_are_named T) (en.room.mono (by omega)) en.gu tk (pds_cons (pd_ix (pd_var 0) pd_int) (pds_cons (pd_giE T.g_MOST_FORMS) (pds_cons (pd_fnv (ok_is_form T)) pds_nil)))) (pd_one (pd_fn (okp_are_rows_within T n hrec) (en.room.mono (by omega)) en.gu tk (pds_cons (pd_ix (pd_var 0) pd_int) (pds_cons (pd_var 1) pds_nil))))))))))))
theorem sc_are_rows : FnScope ["thing", "deep", "row"] ["thing", "deep"] (defScope st_are_rows) := ⟨rfl, rfl, rfl, by decide +kernel, rfl, by decide +kernel, by decide +kernel⟩
theorem okr_are_rows (T : Txt K mg) : ∀ n : Nat, Fn P w K mg base "are_rows" 2 (9 + 3 * n) (mr_are_rows n)
  | 0 => fn_stuck T.d_are_rows
  | n + 1 => by
    have hrec := okr_are_rows T n
    have e : 9 + 3 * (n + 1) = (9 + 3 * n + 2) + 1 := by omega
    rw [e]
    exact fn_mk (N := ["thing", "deep", "row"]) (ps := ["thing", "deep"]) (r := b_are_rows (mr_are_rows n)) T.d_are_rows sc_are_rows fun f cdv A outer s H E en tk => by
      have nd := sc_are_rows.nd
      exact (psds_cons (psd_if (pb_w (pw_orD (pb_not (pb_tru (pd_callB (hv := bv_isinstance) b_isi T.n_isinstance (pds_cons (pd_var 0) (pds_cons (pd_ty (hv := bv_tuple) T.n_tuple) pds_nil))))) (pw_or1D (pb_cmp (g_gtU en.u64) (pd_callB (hv := bv_len) b_len T.n_len (pds_cons (pd_var 0) pds_nil)) (pd_giE T.g_MOST_ROWS) (by rfl))))) (psds_one (psd_ret pd_bl)) psds_nil)
    (psds_one (psd_ret (pd_callB (hv := bv_all) (b_all rfl) T.n_all (pds_cons (pd_keep (pf_lc rfl nd (pid_seq (pd_var 0)) (own := [("row", 2)]) (blkOk_by (by kernel_rfl)) (plc_no (fun _ _ _ _ _ => (pgx_name 2 nd)) (fun _ _ _ _ _ => (pd_fn (okp_is_row T n hrec) (en.room.mono (by omega)) en.gu takes0 (pds_cons (pd_var 2) (pds_cons (pd_var 1) pds_nil))))))) pds_nil)))))
theorem ok_are_rows (T : Txt K mg) : Fn P w K mg base "are_rows" 2 21 m_are_rows := okr_are_rows T 4
theorem sc_all_rows : FnScope ["program", "found", "row"] ["program"] (defScope st_all_rows) := ⟨rfl, rfl, rfl, by decide +kernel, rfl, by decide +kernel, by decide +kernel⟩
theorem okr_all_rows (T : Txt K mg) : ∀ n : Nat, Fn P w K mg base "all_rows" 1 (1 + n) (mr_all_rows n)
  | 0 => fn_stuck T.d_all_rows
  | n + 1 => by
    have hrec := okr_all_rows T n
    exact fn_mk (N := ["program", "found", "row"]) (ps := ["program"]) (r := b_all_rows (mr_all_rows n)) T.d_all_rows sc_all_rows fun f cdv A outer s H E en tk => by
      have nd := sc_all_rows.nd
      exact (psds_cons (psd_asg (pd_own (pf_lst pds_nil)) (pgd_name 1 nd).pg)
    (psds_cons (psd_for en.hp rfl (pid_seq (pd_var 0)) (pgd_name 2 nd).pg (psds_cons (psd_expr (pd_meth m_append PySem.F.plainAttrs_list PySem.F.slot_list_append PySem.F.type_list_append (pd_var 1) (pds_cons (pd_var 2) pds_nil)))
    (psds_one (psd_if (pb_cmp g_inQ (pd_ix (pd_var 2) pd_int) (pd_tup (pds_cons pd_str (pds_cons pd_str pds_nil))) (by rfl)) (psds_one (psd_expr (pd_meth m_extend PySem.F.plainAttrs_list PySem.F.slot_list_extend PySem.F.type_list_extend (pd_var 1) (pds_cons (pd_fn hrec (en.room.mono (Nat.le_refl _)) en.gu tk (pds_cons (pd_ix (pd_var 2) (pd_neg pd_int)) pds_nil)) pds_nil)))) psds_nil))))
    (psds_one (psd_ret (pd_var 1)))))
theorem ok_all_rows (T : Txt K mg) : Fn P w K mg base "all_rows" 1 5 m_all_rows := okr_all_rows T 4
theorem sc_is_program : FnScope ["thing"] ["thing"] (defScope st_is_program) := ⟨rfl, rfl, rfl, by decide +kernel, rfl, by decide +kernel, by decide +kernel⟩
theorem ok_is_program (T : Txt K mg) : Fn P w K mg base "is_program" 1 22 m_is_program := fn_mk (N := ["thing"]) (ps := ["thing"]) (r := b_is_program) T.d_is_program sc_is_program fun f cdv A outer s H E en tk =>
  have nd := sc_is_program.nd
  (psds_one (psd_ret (pd_and (pd_fn (ok_are_rows T) (en.room.mono (by decide)) en.gu tk (pds_cons (pd_var 0) (pds_cons (pd_giE T.g_MOST_DEEP) pds_nil))) (pd_one (pd_cmp (g_leU en.u64) (pd_callB (hv := bv_len) b_len T.n_len (pds_cons (pd_fn (ok_all_rows T) (en.room.mono (by decide)) en.gu tk (pds_cons (pd_var 0) pds_nil)) pds_nil)) (pd_giE T.g_MOST_TOGETHER) (by rfl))))))
theorem sc_need_program : FnScope ["thing"] ["thing"] (defScope st_need_program) := ⟨rfl, rfl, rfl, by decide +kernel, rfl, by decide +kernel, by decide +kernel⟩
theorem ok_need_program (T : Txt K mg) : Fn P w K mg base "need_program" 1 23 m_need_program := fn_mk (N := ["thing"]) (ps := ["thing"]) (r := b_need_program) T.d_need_program sc_need_program fun f cdv A outer s H E en tk =>
  have nd := sc_need_program.nd
  (psds_one (psd_if (pb_not (pb_tru (pd_fn (ok_is_program T) (en.room.mono (by decide)) en.gu tk (pds_cons (pd_var 0) pds_nil)))) (psds_one (psd_raiseC T.r_BadQuestion tk)) psds_nil))
theorem sc_program_boxes : FnScope ["program", "found", "row", "polys", "boxes", "poly", "box", "form", "own"] ["program"] (defScope st_program_boxes) := ⟨rfl, rfl, rfl, by decide +kernel, rfl, by decide +kernel, by decide +kernel⟩
theorem ok_program_boxes (T : Txt K mg) : Fn P w K mg base "program_boxes" 1 24 m_program_boxes := fn_mk (N := ["program", "found", "row", "polys", "boxes", "poly", "box", "form", "own"]) (ps := ["program"]) (r := b_program_boxes) T.d_program_boxes sc_program_boxes fun f cdv A outer s H E en tk =>
  have nd := sc_program_boxes.nd
  (psds_cons (psd_expr (pd_fn (ok_need_program T) (en.room.mono (by decide)) en.gu tk (pds_cons (pd_var 0) pds_nil)))
    (psds_cons (psd_asg (pd_own pf_dnew) (pgd_name 1 nd).pg)
    (psds_cons (psd_for en.hp rfl (pid_seq (pd_frz (pd_fn (ok_all_rows T) (en.room.mono (by decide)) en.gu tk (pds_cons (pd_var 0) pds_nil)))) (pgd_name 2 nd).pg (psds_cons psd_never
    (psds_cons psd_never
    (psds_cons psd_never
    (psds_one psd_never)))))
    (psds_one (psd_ret (pd_keep (pf_sortKeys rfl T.n_sorted (pds_cons (pd_var 1) pds_nil))))))))
theorem sc_Runner___init__ : FnScope ["self", "held", "limit"] ["self", "held", "limit"] (defScope st_Runner___init__) := ⟨rfl, rfl, rfl, by decide +kernel, rfl, by decide +kernel, by decide +kernel⟩
theorem ok_Runner___init__ (T : Txt K mg) : Mt P w K mg base "Runner" "__init__" 3 1 m_Runner___init__ := mt_mk (N := ["self", "held", "limit"]) (ps := ["self", "held", "limit"]) (r := b_Runner___init__) T.d_Runner___init__ sc_Runner___init__ fun f cdv A outer s H E en tk =>
  have nd := sc_Runner___init__.nd
  (psds_cons (psd_setI T.cf_Runner_held (pd_var 0) (pd_var 1))
    (psds_cons (psd_setI T.cf_Runner_limit (pd_var 0) (pd_var 2))
    (psds_one (psd_setI T.cf_Runner_deeds (pd_var 0) pd_int))))
theorem sc_Runner_put : FnScope ["self", "numbers", "number"] ["self", "numbers"] (defScope st_Runner_put) := ⟨rfl, rfl, rfl, by decide +kernel, rfl, by decide +kernel, by decide +kernel⟩
theorem ok_Runner_put (T : Txt K mg) : Mt P w K mg base "Runner" "put" 2 1 m_Runner_put := mt_mk (N := ["self", "numbers", "number"]) (ps := ["self", "numbers"]) (r := b_Runner_put) T.d_Runner_put sc_Runner_put fun f cdv A outer s H E en tk =>
  have nd := sc_Runner_put.nd
  (psds_cons (psd_lock 1 (psd_if (pb_tru (pd_callB (hv := bv_any) (b_any rfl) T.n_any (pds_cons (pd_keep (pf_lc rfl nd (pid_values (pd_var 1)) (own := [("number", 2)]) (blkOk_by (by kernel_rfl)) (plc_no (fun _ _ _ _ _ => (pgx_name 2 nd)) (fun _ _ _ _ _ => (pd_cmp (g_gtU en.u64) (pd_callB (hv := bv_abs) b_abs T.n_abs (pds_cons (pd_var 2) pds_nil)) (pd_giE T.g_GREATEST) (by rfl)))))) pds_nil))) (psds_one (psd_raiseC T.r_TooGreat tk)) psds_nil))
    (psds_one (psd_expr (pd_upd (pd_fldI T.cf_Runner_held (pd_var 0)) (pd_var 1)))))
theorem sc_Runner_go : FnScope ["self", "rows", "row", "many", "turn", "box", "poly"] ["self", "rows"] (defScope st_Runner_go) := ⟨rfl, rfl, rfl, by decide +kernel, rfl, by decide +kernel, by decide +kernel⟩
theorem ok_Runner_go (T : Txt K mg) : Mt P w K mg base "Runner" "go" 2 1 m_Runner_go := mt_mk (N := ["self", "rows", "row", "many", "turn", "box", "poly"]) (ps := ["self", "rows"]) (r := b_Runner_go) T.d_Runner_go sc_Runner_go fun f cdv A outer s H E en tk =>
  have nd := sc_Runner_go.nd
  (psds_one (psd_for en.hp rfl (pid_seq (pd_var 1)) (pgd_name 2 nd).pg (psds_cons psd_never
    (psds_one psd_never))))
theorem sc_are_numbers : FnScope ["thing", "box", "number"] ["thing"] (defScope st_are_numbers) := ⟨rfl, rfl, rfl, by decide +kernel, rfl, by decide +kernel, by decide +kernel⟩
theorem ok_are_numbers (T : Txt K mg) : Fn P w K mg base "are_numbers" 1 2 m_are_numbers := fn_mk (N := ["thing", "box", "number"]) (ps := ["thing"]) (r := b_are_numbers) T.d_are_numbers sc_are_numbers fun f cdv A outer s H E en tk =>
  have nd := sc_are_numbers.nd
  (psds_cons (psd_if (pb_not (pb_tru (pd_callB (hv := bv_isinstance) b_isiD T.n_isinstance (pds_cons (pd_var 0) (pds_cons (pd_ty (hv := bv_dict) T.n_dict) pds_nil))))) (psds_one (psd_ret pd_bl)) psds_nil)
    (psds_one (psd_lock 0 (psd_ret (pd_callB (hv := bv_all) (b_all rfl) T.n_all (pds_cons (pd_keep (pf_lc rfl nd (pid_items0 (pd_var 0)) (own := [("box", 1), ("number", 2)]) (blkOk_by (by kernel_rfl)) (plc_noT rfl (fun _ _ _ _ _ => (pgxs_cons (pgx_name 1 nd) (pgxs_cons (pgx_name 2 nd) pgxs_nil))) (fun _ _ _ _ _ => (pd_and (pd_fn (ok_is_name T) (en.room.mono (by decide)) en.gu takes0 (pds_cons (pd_var 1) pds_nil)) (pd_one (pd_fn (ok_is_whole T) (en.room.mono (by decide)) en.gu takes0 (pds_cons (pd_var 2) pds_nil)))))))) pds_nil))))))
theorem sc_run : FnScope ["program", "numbers", "limit", "names", "held", "runner", "box"] ["program", "numbers", "limit"] (defScope st_run) := ⟨rfl, rfl, rfl, by decide +kernel, rfl, by decide +kernel, by decide +kernel⟩
theorem ok_run (T : Txt K mg) : Fn P w K mg base "run" 3 25 m_run := fn_mkK (N := ["program", "numbers", "limit", "names", "held", "runner", "box"]) (ps := ["program", "numbers", "limit"]) (r := b_run) T.d_run sc_run fun f cdv A outer s H E en tk =>
  have nd := sc_run.nd
  (psds_cons (psd_asg (pd_fn (ok_program_boxes T) (en.room.mono (by decide)) en.gu tk (pds_cons (pd_var 0) pds_nil)) (pgd_name 3 nd).pg)
    (psds_cons (psd_if (pb_not (pb_tru (pd_fn (ok_are_numbers T) (en.room.mono (by decide)) en.gu tk (pds_cons (pd_var 1) pds_nil)))) (psds_one (psd_raiseC T.r_BadQuestion tk)) psds_nil)
    (psds_cons (psd_if (pb_not (pb_tru (pd_fn (ok_is_among T) (en.room.mono (by decide)) en.gu tk (pds_cons (pd_var 2) (pds_cons pd_int (pds_cons (pd_giE T.g_MOST_LIMIT) pds_nil)))))) (psds_one (psd_raiseC T.r_BadQuestion tk)) psds_nil)
    (psds_cons (psd_asg (pd_own (pf_dict rfl en.u12 T.n_dict (pds_cons (pd_keep (pf_lc rfl nd (pid_seq (pd_var 3)) (own := [("box", 6)]) (blkOk_by (by kernel_rfl)) (plc_no (fun _ _ _ _ _ => (pgx_name 6 nd)) (fun _ _ _ _ _ => (pd_tup (pds_cons (pd_var 6) (pds_cons pd_int pds_nil))))))) pds_nil))) (pgd_name 4 nd).pg)
    (psds_cons (psd_expr (pd_upd (pd_var 4) (pd_var 1)))
    (psds_cons (psd_asg (pd_makeI (ok_Runner___init__ T) T.mk_Runner (en.room.mono (by decide)) en.gu tk (pds_cons (pd_var 4) (pds_cons (pd_var 2) pds_nil))) (pgd_name 5 nd).pg)
    (psds_cons (psd_expr (pd_methI (ok_Runner_put T) (en.room.mono (by decide)) en.gu tk (pd_var 5) (pds_cons (pd_own (pf_dict rfl en.u12 T.n_dict (pds_cons (pd_var 4) pds_nil))) pds_nil)))
    (psds_cons (psd_expr (pd_methI (ok_Runner_go T) (en.room.mono (by decide)) en.gu tk (pd_var 5) (pds_cons (pd_var 0) pds_nil)))
    (psds_one (psd_ret (pd_tup (pds_cons (pd_own (pf_dict rfl en.u12 T.n_dict (pds_cons (pd_keep (pf_sortIt rfl en.u64 T.n_sorted (pd_fldI T.cf_Runner_held (pd_var 5)))) pds_nil))) (pds_cons (pd_fldI T.cf_Runner_deeds (pd_var 5)) pds_nil)))))))))))))
theorem sc_is_plain : FnScope ["program", "row"] ["program"] (defScope st_is_plain) := ⟨rfl, rfl, rfl, by decide +kernel, rfl, by decide +kernel, by decide +kernel⟩
theorem ok_is_plain (T : Txt K mg) : Fn P w K mg base "is_plain" 1 24 m_is_plain := fn_mk (N := ["program", "row"]) (ps := ["program"]) (r := b_is_plain) T.d_is_plain sc_is_plain fun f cdv A outer s H E en tk =>
  have nd := sc_is_plain.nd
  (psds_cons (psd_expr (pd_fn (ok_need_program T) (en.room.mono (by decide)) en.gu tk (pds_cons (pd_var 0) pds_nil)))
    (psds_one (psd_ret (pd_callB (hv := bv_all) (b_all rfl) T.n_all (pds_cons (pd_keep (pf_lc rfl nd (pid_seq (pd_var 0)) (own := [("row", 1)]) (blkOk_by (by kernel_rfl)) (plc_no (fun _ _ _ _ _ => (pgx_name 1 nd)) (fun _ _ _ _ _ => (pd_cmp g_isN pd_never pd_non (by rfl)))))) pds_nil)))))
theorem sc_program_step : FnScope ["program", "found", "row"] ["program"] (defScope st_program_step) := ⟨rfl, rfl, rfl, by decide +kernel, rfl, by decide +kernel, by decide +kernel⟩
theorem ok_program_step (T : Txt K mg) : Fn P w K mg base "program_step" 1 25 m_program_step := fn_mk (N := ["program", "found", "row"]) (ps := ["program"]) (r := b_program_step) T.d_program_step sc_program_step fun f cdv A outer s H E en tk =>
  have nd := sc_program_step.nd
  (psds_cons (psd_if (pb_not (pb_tru (pd_fn (ok_is_plain T) (en.room.mono (by decide)) en.gu tk (pds_cons (pd_var 0) pds_nil)))) (psds_one (psd_raiseC T.r_OutOfPlace tk)) psds_nil)
    (psds_cons (psd_asg (pd_own pf_dnew) (pgd_name 1 nd).pg)
    (psds_cons (psd_for en.hp rfl (pid_seq (pd_var 0)) (pgd_name 2 nd).pg (psds_one psd_never))
    (psds_one (psd_ret (pd_var 1))))))
theorem sc_short_rows : FnScope ["rows", "row"] ["rows"] (defScope st_short_rows) := ⟨rfl, rfl, rfl, by decide +kernel, rfl, by decide +kernel, by decide +kernel⟩
theorem ok_short_rows (T : Txt K mg) : Fn P w K mg base "short_rows" 1 1 m_short_rows := fn_mk (N := ["rows", "row"]) (ps := ["rows"]) (r := b_short_rows) T.d_short_rows sc_short_rows fun f cdv A outer s H E en tk =>
  have nd := sc_short_rows.nd
  (psds_one (psd_ret (pd_callT (hv := bv_tuple) b_tuple T.n_tuple (pds_cons (pd_keep (pf_lc rfl nd (pid_seq (pd_var 0)) (own := [("row", 1)]) (blkOk_by (by kernel_rfl)) (plc_no (fun _ _ _ _ _ => (pgx_name 1 nd)) (fun _ _ _ _ _ => pd_never)))) pds_nil))))
theorem sc_shortened : FnScope ["program"] ["program"] (defScope st_shortened) := ⟨rfl, rfl, rfl, by decide +kernel, rfl, by decide +kernel, by decide +kernel⟩
theorem ok_shortened (T : Txt K mg) : Fn P w K mg base "shortened" 1 24 m_shortened := fn_mk (N := ["program"]) (ps := ["program"]) (r := b_shortened) T.d_shortened sc_shortened fun f cdv A outer s H E en tk =>
  have nd := sc_shortened.nd
  (psds_cons (psd_expr (pd_fn (ok_need_program T) (en.room.mono (by decide)) en.gu tk (pds_cons (pd_var 0) pds_nil)))
    (psds_one (psd_ret (pd_fn (ok_short_rows T) (en.room.mono (by decide)) en.gu tk (pds_cons (pd_var 0) pds_nil)))))
theorem sc_loops_in : FnScope ["program", "row"] ["program"] (defScope st_loops_in) := ⟨rfl, rfl, rfl, by decide +kernel, rfl, by decide +kernel, by decide +kernel⟩
theorem ok_loops_in (T : Txt K mg) : Fn P w K mg base "loops_in" 1 24 m_loops_in := fn_mk (N := ["program", "row"]) (ps := ["program"]) (r := b_loops_in) T.d_loops_in sc_loops_in fun f cdv A outer s H E en tk =>
  have nd := sc_loops_in.nd
  (psds_cons (psd_expr (pd_fn (ok_need_program T) (en.room.mono (by decide)) en.gu tk (pds_cons (pd_var 0) pds_nil)))
    (psds_one (psd_ret (pd_callB (hv := bv_len) b_len T.n_len (pds_cons (pd_keep (pf_lc rfl nd (pid_seq (pd_frz (pd_fn (ok_all_rows T) (en.room.mono (by decide)) en.gu tk (pds_cons (pd_var 0) pds_nil)))) (own := [("row", 1)]) (blkOk_by (by kernel_rfl)) (plc_if (fun _ _ _ _ _ => (pgx_name 1 nd)) (fun _ _ _ _ _ => (pb_cmp (g_eq en.u64) (pd_ix (pd_var 1) pd_int) pd_str (by rfl))) (fun _ _ _ _ _ => (pd_var 1))))) pds_nil)))))
theorem sc__law_draw : FnScope ["_law_script", "_law_tape", "_law_many", "_law_cell", "_law_number", "_law_digit"] ["_law_script", "_law_tape", "_law_many"] (defScope st__law_draw) := ⟨rfl, rfl, rfl, by decide +kernel, rfl, by decide +kernel, by decide +kernel⟩
theorem ok__law_draw (T : Txt K mg) : Fn P w K mg base "_law_draw" 3 1 m__law_draw := fn_mk (N := ["_law_script", "_law_tape", "_law_many", "_law_cell", "_law_number", "_law_digit"]) (ps := ["_law_script", "_law_tape", "_law_many"]) (r := b__law_draw) T.d__law_draw sc__law_draw fun f cdv A outer s H E en tk =>
  have nd := sc__law_draw.nd
  (psds_cons (psd_if (pb_cmp (g_eq en.u64) (pd_ix (pd_var 1) pd_int) pd_int (by rfl)) (psds_cons (psd_asg (pd_if (pb_cmp (g_ne en.u64) (pd_var 0) (pd_keep (pf_lst pds_nil)) (by rfl)) (pd_ix (pd_var 0) (pd_bin g_mod (pd_ix (pd_var 1) pd_int) (pd_callB (hv := bv_len) b_len T.n_len (pds_cons (pd_var 0) pds_nil)))) pd_int) (pgd_name 3 nd).pg)
    (psds_cons (psd_setL (pd_var 1) pd_int (pd_bin g_add (pd_ix (pd_var 1) pd_int) pd_int))
    (psds_cons (psd_if (pb_w (pw_orD (pb_cmp (g_ltU en.u64) (pd_var 3) (pd_bin g_pow pd_int pd_int) (by rfl)) (pw_or1D (pb_cmp (g_gtU en.u64) (pd_ix (pd_var 1) pd_int) (pd_callB (hv := bv_len) b_len T.n_len (pds_cons (pd_var 0) pds_nil)) (by rfl))))) (psds_cons (psd_asg (pd_bin g_add (pd_bin g_mul (pd_bin g_mod (pd_var 3) pd_int) pd_int) (pd_bin g_mod (pd_bin g_div (pd_var 3) pd_int) pd_int)) (pgd_name 4 nd).pg)
    (psds_cons (psd_asg (pd_bin g_mod (pd_bin g_add (pd_bin g_add (pd_var 4) (pd_bin g_mul (pd_bin g_mul pd_int (pd_ix (pd_var 1) pd_int)) (pd_ix (pd_var 1) pd_int))) (pd_bin g_mul pd_int (pd_ix (pd_var 1) pd_int))) pd_int) (pgd_name 4 nd).pg)
    (psds_one (psd_ret (pd_bin g_mod (pd_bin g_div (pd_bin g_mod (pd_bin g_mul (pd_bin g_mod (pd_bin g_mul (pd_var 4) (pd_var 4)) pd_int) pd_int) pd_int) pd_int) (pd_var 2)))))) psds_nil)
    (psds_one (psd_setL (pd_var 1) pd_int (pd_var 3)))))) psds_nil)
    (psds_cons (psd_asg (pd_bin g_mod (pd_ix (pd_var 1) pd_int) (pd_var 2)) (pgd_name 5 nd).pg)
    (psds_cons (psd_setL (pd_var 1) pd_int (pd_bin g_div (pd_ix (pd_var 1) pd_int) (pd_var 2)))
    (psds_one (psd_ret (pd_var 5))))))
theorem sc__law_kind : FnScope ["_law_e", "_law_some", "_law_word", "_law_taken"] ["_law_e"] (defScope st__law_kind) := ⟨rfl, rfl, rfl, by decide +kernel, rfl, by decide +kernel, by decide +kernel⟩
theorem ok__law_kind (T : Txt K mg) : Fn P w K mg base "_law_kind" 1 1 m__law_kind := fn_mk (N := ["_law_e", "_law_some", "_law_word", "_law_taken"]) (ps := ["_law_e"]) (r := b__law_kind) T.d__law_kind sc__law_kind fun f cdv A outer s H E en tk =>
  have nd := sc__law_kind.nd
  (psds_cons (psd_asg (pd_keep (pf_lst (pds_cons (pd_tup (pds_cons pd_str (pds_cons (pd_callB (hv := bv_isinstance) (b_isiE T.xc) T.n_isinstance (pds_cons (pd_var 0) (pds_cons (pd_cls (T.xc.at_ _ (by decide))) pds_nil))) pds_nil))) (pds_cons (pd_tup (pds_cons pd_str (pds_cons (pd_callB (hv := bv_isinstance) (b_isiE T.xc) T.n_isinstance (pds_cons (pd_var 0) (pds_cons (pd_cls (T.xc.at_ _ (by decide))) pds_nil))) pds_nil))) pds_nil)))) (pgd_name 1 nd).pg)
    (psds_cons (psd_asg (pd_keep (pf_cat (pd_var 1) (pd_keep (pf_lst (pds_cons (pd_tup (pds_cons pd_str (pds_cons (pd_callB (hv := bv_isinstance) (b_isiE T.xc) T.n_isinstance (pds_cons (pd_var 0) (pds_cons (pd_cls (T.xc.at_ _ (by decide))) pds_nil))) pds_nil))) (pds_cons (pd_tup (pds_cons pd_str (pds_cons (pd_callB (hv := bv_isinstance) (b_isiE T.xc) T.n_isinstance (pds_cons (pd_var 0) (pds_cons (pd_cls (T.xc.at_ _ (by decide))) pds_nil))) pds_nil))) pds_nil)))))) (pgd_name 1 nd).pg)
    (psds_cons (psd_asg (pd_keep (pf_cat (pd_var 1) (pd_keep (pf_lst (pds_cons (pd_tup (pds_cons pd_str (pds_cons (pd_callB (hv := bv_isinstance) (b_isiE T.xc) T.n_isinstance (pds_cons (pd_var 0) (pds_cons (pd_cls (T.xc.at_ _ (by decide))) pds_nil))) pds_nil))) (pds_cons (pd_tup (pds_cons pd_str (pds_cons (pd_callB (hv := bv_isinstance) (b_isiE T.xc) T.n_isinstance (pds_cons (pd_var 0) (pds_cons (pd_cls (T.xc.at_ _ (by decide))) pds_nil))) pds_nil))) pds_nil)))))) (pgd_name 1 nd).pg)
    (psds_cons (psd_asg (pd_keep (pf_cat (pd_var 1) (pd_keep (pf_lst (pds_cons (pd_tup (pds_cons pd_str (pds_cons (pd_callB (hv := bv_isinstance) (b_isiE T.xc) T.n_isinstance (pds_cons (pd_var 0) (pds_cons (pd_cls (T.xc.at_ _ (by decide))) pds_nil))) pds_nil))) (pds_cons (pd_tup (pds_cons pd_str (pds_cons (pd_not (pd_callB (hv := bv_isinstance) (b_isiE T.xc) T.n_isinstance (pds_cons (pd_var 0) (pds_cons (pd_ty (hv := bv_ValueError) T.n_ValueError) pds_nil)))) pds_nil))) pds_nil)))))) (pgd_name 1 nd).pg)
    (psds_one (psd_ret (pd_keep (pf_lc rfl nd (pid_seq (pd_var 1)) (own := [("_law_word", 2), ("_law_taken", 3)]) (blkOk_by (by kernel_rfl)) (plc_ifT rfl (fun _ _ _ _ _ => (pgxs_cons (pgx_name 2 nd) (pgxs_cons (pgx_name 3 nd) pgxs_nil))) (fun _ _ _ _ _ => (pb_tru (pd_var 3))) (fun _ _ _ _ _ => (pd_var 2)))))))))))
theorem sc__law_tried : FnScope ["_law_deed", "_law_found", "_law_told", "_law_e"] ["_law_deed"] (defScope st__law_tried) := ⟨rfl, rfl, rfl, by decide +kernel, rfl, by decide +kernel, by decide +kernel⟩
theorem thk__law_tried (T : Txt K mg) : ThkOf P w K mg base "_law_tried" "_law_deed" st__law_tried ["_law_deed", "_law_found", "_law_told", "_law_e"] 1 bT__law_tried := fun g cdg A stk s H d0 th en tk hthk =>
  have nd := sc__law_tried.nd
  (psds_cons (psd_asg pd_non (pgd_name 1 nd).pg)
    (psds_cons (psd_asg pd_non (pgd_name 2 nd).pg)
    (psds_cons (psd_tryKeep (i := 3) T.xc (by decide) nd tk (fun W pn xe tk hpx => have en := Env1.tr en pn xe hpx; (psds_one (psd_asg (hthk _ pn xe _ _ tk) (pgd_name 2 nd).pg))) (fun _ => (psds_one (psd_asg (pd_var 3) (pgd_name 1 nd).pg))))
    (psds_one (psd_ret (pd_if (pb_cmp g_is (pd_var 1) pd_non (by rfl)) (pd_tup (pds_cons (pd_var 2) pds_nil)) (pd_fn (ok__law_kind T) (en.room.mono (by decide)) en.gu tk (pds_cons (pd_var 1) pds_nil))))))))
theorem sc__law_loops : FnScope ["_law_many", "_law_within", "_law_row", "_law_k"] ["_law_many", "_law_within"] (defScope st__law_loops) := ⟨rfl, rfl, rfl, by decide +kernel, rfl, by decide +kernel, by decide +kernel⟩
theorem ok__law_loops (T : Txt K mg) : Fn P w K mg base "_law_loops" 2 1 m__law_loops := fn_mk (N := ["_law_many", "_law_within", "_law_row", "_law_k"]) (ps := ["_law_many", "_law_within"]) (r := b__law_loops) T.d__law_loops sc__law_loops fun f cdv A outer s H E en tk =>
  have nd := sc__law_loops.nd
  (psds_cons (psd_asg (pd_var 1) (pgd_name 2 nd).pg)
    (psds_cons (psd_for en.hp rfl (pid_range1 T.n_range (pds_cons (pd_var 0) pds_nil)) (pgd_name 3 nd).pg (psds_one (psd_asg (pd_tup (pds_cons pd_str (pds_cons (pd_tup (pds_cons (pd_tup (pds_cons (pd_tup pds_nil) (pds_cons pd_int pds_nil))) pds_nil)) (pds_cons (pd_tup (pds_cons (pd_var 2) pds_nil)) pds_nil)))) (pgd_name 2 nd).pg)))
    (psds_one (psd_ret (pd_var 2)))))
theorem sc__law_none : FnScope ["_law_script", "_law_tape", "_law_one", "_law_form", "_law_some", "_law_both", "_law_jump", "_law_names", "_law_k", "_law_sign", "_law_name"] ["_law_script", "_law_tape"] (defScope st__law_none) := ⟨rfl, rfl, rfl, by decide +kernel, rfl, by decide +kernel, by decide +kernel⟩
theorem ok__law_none (T : Txt K mg) : Fn P w K mg base "_law_none" 2 2 m__law_none := fn_mkK (N := ["_law_script", "_law_tape", "_law_one", "_law_form", "_law_some", "_law_both", "_law_jump", "_law_names", "_law_k", "_law_sign", "_law_name"]) (ps := ["_law_script", "_law_tape"]) (r := b__law_none) T.d__law_none sc__law_none fun f cdv A outer s H E en tk =>
  have nd := sc__law_none.nd
  (psds_cons (psd_asg (pd_tup (pds_cons pd_str (pds_cons pd_str (pds_cons (pd_tup (pds_cons (pd_tup (pds_cons (pd_tup pds_nil) (pds_cons pd_int pds_nil))) pds_nil)) pds_nil)))) (pgd_name 2 nd).pg)
    (psds_cons (psd_asg (pd_tup (pds_cons (pd_tup (pds_cons (pd_tup (pds_cons (pd_tup pds_nil) (pds_cons pd_int (pds_cons pd_int pds_nil)))) (pds_cons (pd_tup (pds_cons pd_int (pds_cons pd_int pds_nil))) pds_nil))) pds_nil)) (pgd_name 3 nd).pg)
    (psds_cons (psd_asg (pd_own (pf_lst (pds_cons pd_non (pds_cons pd_int (pds_cons pd_str (pds_cons (pd_keep (pf_lst (pds_cons (pd_var 2) pds_nil))) (pds_cons (pd_own pf_dnew) (pds_cons pd_bl (pds_cons (pd_bin g_repX (pd_tup (pds_cons (pd_var 2) pds_nil)) pd_int) (pds_cons (pd_tup (pds_cons (pd_tup pds_nil) pds_nil)) (pds_cons (pd_tup (pds_cons (pd_tup (pds_cons pd_str pds_nil)) pds_nil)) (pds_cons (pd_tup (pds_cons (pd_tup (pds_cons pd_str (pds_cons pd_str pds_nil))) pds_nil)) pds_nil)))))))))))) (pgd_name 4 nd).pg)
    (psds_cons (psd_expr (pd_meth m_append PySem.F.plainAttrs_list PySem.F.slot_list_append PySem.F.type_list_append (pd_var 4) (pds_cons (pd_tup (pds_cons (pd_bin g_add (pd_var 2) (pd_tup (pds_cons pd_int pds_nil))) pds_nil)) pds_nil)))
    (psds_cons (psd_asg (pd_own (pf_cat (pd_var 4) (pd_keep (pf_lst (pds_cons (pd_tup (pds_cons (pd_tup (pds_cons pd_str (pds_cons pd_str (pds_cons (pd_tup pds_nil) pds_nil)))) pds_nil)) (pds_cons (pd_tup (pds_cons (pd_tup (pds_cons pd_str (pds_cons pd_str (pds_cons (pd_tup pds_nil) pds_nil)))) pds_nil)) (pds_cons (pd_tup (pds_cons (pd_tup (pds_cons pd_str (pds_cons pd_str (pds_cons pd_int pds_nil)))) pds_nil)) (pds_cons (pd_tup (pds_cons (pd_tup (pds_cons pd_str (pds_cons pd_int (pds_cons (pd_tup pds_nil) pds_nil)))) pds_nil)) pds_nil)))))))) (pgd_name 4 nd).pg)
    (psds_cons (psd_asg (pd_own (pf_cat (pd_var 4) (pd_keep (pf_lst (pds_cons (pd_tup (pds_cons (pd_tup (pds_cons pd_str (pds_cons pd_str (pds_cons (pd_tup (pds_cons (pd_tup (pds_cons (pd_tup pds_nil) (pds_cons pd_int pds_nil))) pds_nil)) pds_nil)))) pds_nil)) (pds_cons (pd_tup (pds_cons (pd_tup (pds_cons pd_str (pds_cons pd_str (pds_cons (pd_tup (pds_cons (pd_tup (pds_cons (pd_tup pds_nil) (pds_cons pd_bl pds_nil))) pds_nil)) pds_nil)))) pds_nil)) (pds_cons (pd_tup (pds_cons (pd_tup (pds_cons pd_str (pds_cons pd_str (pds_cons (pd_keep (pf_lst (pds_cons (pd_tup (pds_cons (pd_tup pds_nil) (pds_cons pd_int pds_nil))) pds_nil))) pds_nil)))) pds_nil)) pds_nil))))))) (pgd_name 4 nd).pg)
    (psds_cons (psd_asg (pd_own (pf_cat (pd_var 4) (pd_keep (pf_lst (pds_cons (pd_tup (pds_cons (pd_tup (pds_cons pd_str (pds_cons pd_str (pds_cons (pd_tup (pds_cons (pd_tup (pds_cons (pd_tup (pds_cons (pd_tup (pds_cons pd_str (pds_cons pd_int pds_nil))) pds_nil)) (pds_cons pd_int pds_nil))) pds_nil)) pds_nil)))) pds_nil)) (pds_cons (pd_tup (pds_cons (pd_keep (pf_lst (pds_cons pd_str (pds_cons pd_str (pds_cons (pd_tup pds_nil) pds_nil))))) pds_nil)) (pds_cons (pd_tup (pds_cons (pd_tup (pds_cons pd_str (pds_cons pd_str (pds_cons (pd_tup pds_nil) pds_nil)))) pds_nil)) pds_nil))))))) (pgd_name 4 nd).pg)
    (psds_cons (psd_expr (pd_meth m_append PySem.F.plainAttrs_list PySem.F.slot_list_append PySem.F.type_list_append (pd_var 4) (pds_cons (pd_tup (pds_cons pd_non pds_nil)) pds_nil)))
    (psds_cons (psd_asg (pd_own (pf_cat (pd_var 4) (pd_keep (pf_lst (pds_cons (pd_tup (pds_cons (pd_tup (pds_cons pd_str (pds_cons (pd_tup pds_nil) pds_nil))) pds_nil)) (pds_cons (pd_tup (pds_cons (pd_tup (pds_cons pd_str (pds_cons (pd_tup (pds_cons (pd_tup (pds_cons pd_str (pds_cons (pd_tup pds_nil) pds_nil))) (pds_cons (pd_tup (pds_cons pd_str (pds_cons (pd_tup pds_nil) pds_nil))) pds_nil))) pds_nil))) pds_nil)) pds_nil)))))) (pgd_name 4 nd).pg)
    (psds_cons (psd_expr (pd_meth m_append PySem.F.plainAttrs_list PySem.F.slot_list_append PySem.F.type_list_append (pd_var 4) (pds_cons (pd_tup (pds_cons (pd_tup (pds_cons pd_str (pds_cons (pd_tup (pds_cons (pd_tup (pds_cons pd_str (pds_cons (pd_tup pds_nil) pds_nil))) (pds_cons (pd_tup (pds_cons pd_str (pds_cons (pd_tup pds_nil) pds_nil))) pds_nil))) pds_nil))) pds_nil)) pds_nil)))
    (psds_cons (psd_asg (pd_own (pf_cat (pd_var 4) (pd_keep (pf_lst (pds_cons (pd_tup (pds_cons (pd_tup (pds_cons pd_str (pds_cons (pd_tup (pds_cons (pd_tup (pds_cons pd_str pds_nil)) pds_nil)) pds_nil))) pds_nil)) (pds_cons (pd_tup (pds_cons (pd_tup (pds_cons pd_str (pds_cons (pd_callT (hv := bv_tuple) b_tuple T.n_tuple (pds_cons (pd_keep (pf_lc rfl nd (pid_range1 T.n_range (pds_cons pd_int pds_nil)) (own := [("_law_k", 8)]) (blkOk_by (by kernel_rfl)) (plc_no (fun _ _ _ _ _ => (pgx_name 8 nd)) (fun _ _ _ _ _ => (pd_tup (pds_cons (pd_ix pd_str (pd_var 8)) (pds_cons (pd_tup pds_nil) pds_nil))))))) pds_nil)) pds_nil))) pds_nil)) pds_nil)))))) (pgd_name 4 nd).pg)
    (psds_cons (psd_asg (pd_own (pf_cat (pd_var 4) (pd_keep (pf_lst (pds_cons (pd_tup (pds_cons (pd_tup (pds_cons pd_str (pds_cons (pd_tup (pds_cons (pd_tup (pds_cons pd_str (pds_cons (pd_var 3) pds_nil))) pds_nil)) pds_nil))) pds_nil)) (pds_cons (pd_tup (pds_cons (pd_tup (pds_cons pd_str (pds_cons (pd_tup pds_nil) (pds_cons (pd_tup pds_nil) pds_nil)))) pds_nil)) (pds_cons (pd_tup (pds_cons (pd_tup (pds_cons pd_str (pds_cons (pd_tup (pds_cons (pd_tup pds_nil) (pds_cons pd_int pds_nil))) (pds_cons (pd_tup (pds_cons (pd_var 2) pds_nil)) pds_nil)))) pds_nil)) pds_nil))))))) (pgd_name 4 nd).pg)
    (psds_cons (psd_asg (pd_own (pf_cat (pd_var 4) (pd_keep (pf_lst (pds_cons (pd_tup (pds_cons (pd_tup (pds_cons pd_str (pds_cons (pd_tup pds_nil) pds_nil))) pds_nil)) (pds_cons (pd_tup (pds_cons (pd_tup (pds_cons pd_str (pds_cons (pd_tup pds_nil) (pds_cons (pd_var 2) pds_nil)))) pds_nil)) (pds_cons (pd_tup (pds_cons (pd_fn (ok__law_loops T) (en.room.mono (by decide)) en.gu tk (pds_cons pd_int (pds_cons (pd_var 2) pds_nil))) pds_nil)) pds_nil))))))) (pgd_name 4 nd).pg)
    (psds_cons (psd_expr (pd_meth m_append PySem.F.plainAttrs_list PySem.F.slot_list_append PySem.F.type_list_append (pd_var 4) (pds_cons (pd_tup (pds_cons (pd_tup (pds_cons pd_str (pds_cons (pd_tup pds_nil) (pds_cons (pd_tup (pds_cons (pd_var 2) pds_nil)) (pds_cons (pd_var 2) pds_nil))))) pds_nil)) pds_nil)))
    (psds_cons (psd_asg (pd_own (pf_cat (pd_var 4) (pd_keep (pf_lst (pds_cons (pd_tup (pds_cons (pd_tup (pds_cons pd_str (pds_cons (pd_tup pds_nil) (pds_cons (pd_tup (pds_cons pd_int pds_nil)) pds_nil)))) pds_nil)) (pds_cons (pd_tup (pds_cons (pd_tup (pds_cons pd_str (pds_cons (pd_tup pds_nil) (pds_cons (pd_tup (pds_cons (pd_tup (pds_cons pd_str (pds_cons (pd_var 3) pds_nil))) pds_nil)) pds_nil)))) pds_nil)) (pds_cons (pd_tup (pds_cons (pd_tup (pds_cons pd_str (pds_cons (pd_tup pds_nil) (pds_cons (pd_tup pds_nil) (pds_cons (pd_tup (pds_cons (pd_var 2) pds_nil)) pds_nil))))) pds_nil)) pds_nil))))))) (pgd_name 4 nd).pg)
    (psds_cons (psd_expr (pd_meth m_append PySem.F.plainAttrs_list PySem.F.slot_list_append PySem.F.type_list_append (pd_var 4) (pds_cons (pd_tup (pds_cons (pd_tup (pds_cons pd_str (pds_cons (pd_tup pds_nil) (pds_cons (pd_tup (pds_cons (pd_tup (pds_cons pd_str (pds_cons (pd_var 3) pds_nil))) pds_nil)) (pds_cons (pd_tup pds_nil) pds_nil))))) pds_nil)) pds_nil)))
    (psds_cons (psd_expr (pd_meth m_append PySem.F.plainAttrs_list PySem.F.slot_list_append PySem.F.type_list_append (pd_var 4) (pds_cons (pd_tup (pds_cons (pd_tup (pds_cons pd_str (pds_cons (pd_tup pds_nil) (pds_cons (pd_tup (pds_cons (pd_tup (pds_cons pd_str (pds_cons (pd_tup pds_nil) pds_nil))) (pds_cons (pd_tup (pds_cons pd_str (pds_cons (pd_tup pds_nil) pds_nil))) pds_nil))) (pds_cons (pd_tup (pds_cons (pd_var 2) pds_nil)) pds_nil))))) pds_nil)) pds_nil)))
    (psds_cons (psd_expr (pd_meth m_append PySem.F.plainAttrs_list PySem.F.slot_list_append PySem.F.type_list_append (pd_var 4) (pds_cons (pd_tup (pds_cons (pd_tup (pds_cons pd_str (pds_cons pd_int (pds_cons (pd_tup (pds_cons (pd_tup (pds_cons pd_str (pds_cons (pd_var 3) pds_nil))) pds_nil)) (pds_cons (pd_tup (pds_cons (pd_var 2) pds_nil)) pds_nil))))) pds_nil)) pds_nil)))
    (psds_cons (psd_asg (pd_own (pf_cat (pd_var 4) (pd_keep (pf_lst (pds_cons (pd_tup (pds_cons (pd_tup (pds_cons pd_str (pds_cons (pd_tup pds_nil) (pds_cons (pd_tup (pds_cons (pd_tup (pds_cons pd_str (pds_cons (pd_tup (pds_cons (pd_tup (pds_cons (pd_tup (pds_cons (pd_tup pds_nil) (pds_cons pd_int (pds_cons pd_int pds_nil)))) (pds_cons (pd_tup (pds_cons pd_int (pds_cons pd_int pds_nil))) pds_nil))) pds_nil)) pds_nil))) pds_nil)) (pds_cons (pd_tup (pds_cons (pd_var 2) pds_nil)) pds_nil))))) pds_nil)) (pds_cons (pd_tup (pds_cons (pd_tup (pds_cons (pd_own pf_dnew) (pds_cons pd_str (pds_cons (pd_tup pds_nil) pds_nil)))) pds_nil)) pds_nil)))))) (pgd_name 4 nd).pg)
    (psds_cons (psd_expr (pd_meth m_append PySem.F.plainAttrs_list PySem.F.slot_list_append PySem.F.type_list_append (pd_var 4) (pds_cons (pd_tup (pds_cons (pd_tup (pds_cons pd_int (pds_cons pd_str (pds_cons (pd_tup pds_nil) pds_nil)))) pds_nil)) pds_nil)))
    (psds_cons (psd_asg (pd_own (pf_cat (pd_var 4) (pd_keep (pf_lst (pds_cons (pd_tup (pds_cons (pd_tup (pds_cons pd_str (pds_cons (pd_tup pds_nil) (pds_cons (pd_tup (pds_cons (pd_tup (pds_cons pd_str (pds_cons (pd_var 3) pds_nil))) pds_nil)) (pds_cons (pd_tup (pds_cons (pd_fn (ok__law_loops T) (en.room.mono (by decide)) en.gu tk (pds_cons pd_int (pds_cons (pd_var 2) pds_nil))) pds_nil)) pds_nil))))) pds_nil)) (pds_cons (pd_tup (pds_cons (pd_tup (pds_cons pd_str (pds_cons (pd_tup pds_nil) (pds_cons (pd_bin g_repX (pd_tup (pds_cons (pd_var 2) pds_nil)) pd_int) pds_nil)))) pds_nil)) pds_nil)))))) (pgd_name 4 nd).pg)
    (psds_cons (psd_expr (pd_meth m_append PySem.F.plainAttrs_list PySem.F.slot_list_append PySem.F.type_list_append (pd_var 4) (pds_cons (pd_bin g_repX (pd_tup (pds_cons (pd_tup (pds_cons pd_str (pds_cons (pd_tup pds_nil) (pds_cons (pd_bin g_repX (pd_tup (pds_cons (pd_var 2) pds_nil)) pd_int) pds_nil)))) pds_nil)) pd_int) pds_nil)))
    (psds_cons (psd_asg (pd_tup (pds_cons pd_str (pds_cons (pd_tup (pds_cons (pd_tup (pds_cons pd_str (pds_cons (pd_tup pds_nil) pds_nil))) pds_nil)) pds_nil))) (pgd_name 5 nd).pg)
    (psds_cons (psd_asg (pd_own (pf_cat (pd_var 4) (pd_keep (pf_lst (pds_cons (pd_bin g_repX (pd_tup (pds_cons (pd_tup (pds_cons pd_str (pds_cons (pd_tup pds_nil) (pds_cons (pd_bin g_repX (pd_tup (pds_cons (pd_var 5) pds_nil)) pd_int) pds_nil)))) pds_nil)) pd_int) (pds_cons (pd_bin g_add (pd_bin g_add (pd_bin g_repX (pd_tup (pds_cons (pd_tup (pds_cons pd_str (pds_cons (pd_tup pds_nil) (pds_cons (pd_bin g_repX (pd_tup (pds_cons (pd_var 5) pds_nil)) pd_int) pds_nil)))) pds_nil)) pd_int) (pd_bin g_repX (pd_tup (pds_cons (pd_var 2) pds_nil)) pd_int)) (pd_bin g_repX (pd_tup (pds_cons (pd_var 5) pds_nil)) pd_int)) pds_nil)))))) (pgd_name 4 nd).pg)
    (psds_cons (psd_asg (pd_tup (pds_cons pd_str (pds_cons (pd_tup pds_nil) (pds_cons (pd_tup (pds_cons (pd_tup (pds_cons pd_str (pds_cons (pd_var 3) pds_nil))) pds_nil)) (pds_cons (pd_tup (pds_cons (pd_fn (ok__law_loops T) (en.room.mono (by decide)) en.gu tk (pds_cons pd_int (pds_cons (pd_var 2) pds_nil))) pds_nil)) pds_nil))))) (pgd_name 6 nd).pg)
    (psds_cons (psd_asg (pd_own (pf_cat (pd_var 4) (pd_keep (pf_lst (pds_cons (pd_tup (pds_cons (pd_fn (ok__law_loops T) (en.room.mono (by decide)) en.gu tk (pds_cons pd_int (pds_cons (pd_var 6) pds_nil))) pds_nil)) (pds_cons (pd_tup (pds_cons (pd_fn (ok__law_loops T) (en.room.mono (by decide)) en.gu tk (pds_cons pd_int (pds_cons (pd_tup (pds_cons pd_str (pds_cons (pd_tup pds_nil) (pds_cons (pd_tup (pds_cons (pd_tup (pds_cons pd_str (pds_cons (pd_var 3) pds_nil))) pds_nil)) (pds_cons (pd_tup (pds_cons (pd_var 2) pds_nil)) pds_nil))))) pds_nil))) pds_nil)) pds_nil)))))) (pgd_name 4 nd).pg)
    (psds_cons (psd_expr (pd_meth m_append PySem.F.plainAttrs_list PySem.F.slot_list_append PySem.F.type_list_append (pd_var 4) (pds_cons (pd_bin g_repX (pd_tup (pds_cons (pd_tup (pds_cons pd_str (pds_cons (pd_tup pds_nil) (pds_cons (pd_tup (pds_cons (pd_tup (pds_cons pd_str (pds_cons (pd_var 3) pds_nil))) pds_nil)) (pds_cons (pd_bin g_repX (pd_tup (pds_cons (pd_var 2) pds_nil)) pd_int) pds_nil))))) pds_nil)) pd_int) pds_nil)))
    (psds_cons (psd_asg (pd_keep (pf_cat (pd_keep (pf_lc rfl nd (pid_seq pd_str) (own := [("_law_sign", 9)]) (blkOk_by (by kernel_rfl)) (plc_no (fun _ _ _ _ _ => (pgx_name 9 nd)) (fun _ _ _ _ _ => (pd_bin g_add pd_str (pd_var 9)))))) (pd_keep (pf_lc rfl nd (pid_seq pd_str) (own := [("_law_sign", 9)]) (blkOk_by (by kernel_rfl)) (plc_no (fun _ _ _ _ _ => (pgx_name 9 nd)) (fun _ _ _ _ _ => (pd_bin g_add pd_str (pd_var 9)))))))) (pgd_name 7 nd).pg)
    (psds_cons (psd_expr (pd_meth m_append PySem.F.plainAttrs_list PySem.F.slot_list_append PySem.F.type_list_append (pd_var 4) (pds_cons (pd_tup (pds_cons (pd_tup (pds_cons pd_str (pds_cons (pd_tup pds_nil) (pds_cons (pd_callT (hv := bv_tuple) b_tuple T.n_tuple (pds_cons (pd_keep (pf_lc rfl nd (pid_seq (pd_var 7)) (own := [("_law_name", 10)]) (blkOk_by (by kernel_rfl)) (plc_no (fun _ _ _ _ _ => (pgx_name 10 nd)) (fun _ _ _ _ _ => (pd_tup (pds_cons (pd_var 10) (pds_cons (pd_var 3) pds_nil))))))) pds_nil)) (pds_cons (pd_tup (pds_cons (pd_var 2) pds_nil)) pds_nil))))) pds_nil)) pds_nil)))
    (psds_one (psd_ret (pd_ix (pd_var 4) (pd_fn (ok__law_draw T) (en.room.mono (by decide)) en.gu tk (pds_cons (pd_var 0) (pds_cons (pd_var 1) (pds_cons (pd_callB (hv := bv_len) b_len T.n_len (pds_cons (pd_var 4) pds_nil)) pds_nil))))))))))))))))))))))))))))))))))))
theorem sc__law_bounds_right : FnScope ["_law_one", "_law_form", "_law_some", "_law_both", "_law_names", "_law_k", "_law_sign", "_law_name"] [] (defScope st__law_bounds_right) := ⟨rfl, rfl, rfl, by decide +kernel, rfl, by decide +kernel, by decide +kernel⟩
theorem ok__law_bounds_right (T : Txt K mg) : Fn P w K mg base "_law_bounds_right" 0 24 m__law_bounds_right := fn_mk (N := ["_law_one", "_law_form", "_law_some", "_law_both", "_law_names", "_law_k", "_law_sign", "_law_name"]) (ps := []) (r := b__law_bounds_right) T.d__law_bounds_right sc__law_bounds_right fun f cdv A outer s H E en tk =>
  have nd := sc__law_bounds_right.nd
  (psds_cons (psd_asg (pd_tup (pds_cons pd_str (pds_cons pd_str (pds_cons (pd_tup (pds_cons (pd_tup (pds_cons (pd_tup pds_nil) (pds_cons pd_int pds_nil))) pds_nil)) pds_nil)))) (pgd_name 0 nd).pg)
    (psds_cons (psd_asg (pd_tup (pds_cons (pd_tup (pds_cons (pd_tup (pds_cons (pd_tup pds_nil) (pds_cons pd_int (pds_cons pd_int pds_nil)))) (pds_cons (pd_tup (pds_cons pd_int (pds_cons pd_int pds_nil))) pds_nil))) pds_nil)) (pgd_name 1 nd).pg)
    (psds_cons (psd_asg (pd_own (pf_lst (pds_cons (pd_tup pds_nil) (pds_cons (pd_bin g_repX (pd_tup (pds_cons (pd_var 0) pds_nil)) pd_int) (pds_cons (pd_tup (pds_cons (pd_fn (ok__law_loops T) (en.room.mono (by decide)) en.gu tk (pds_cons pd_int (pds_cons (pd_var 0) pds_nil))) pds_nil)) pds_nil))))) (pgd_name 2 nd).pg)
    (psds_cons (psd_expr (pd_meth m_append PySem.F.plainAttrs_list PySem.F.slot_list_append PySem.F.type_list_append (pd_var 2) (pds_cons (pd_tup (pds_cons (pd_tup (pds_cons pd_str (pds_cons (pd_callT (hv := bv_tuple) b_tuple T.n_tuple (pds_cons (pd_keep (pf_lc rfl nd (pid_range1 T.n_range (pds_cons pd_int pds_nil)) (own := [("_law_k", 5)]) (blkOk_by (by kernel_rfl)) (plc_no (fun _ _ _ _ _ => (pgx_name 5 nd)) (fun _ _ _ _ _ => (pd_tup (pds_cons (pd_ix pd_str (pd_var 5)) (pds_cons (pd_tup pds_nil) pds_nil))))))) pds_nil)) pds_nil))) pds_nil)) pds_nil)))
    (psds_cons (psd_expr (pd_meth m_append PySem.F.plainAttrs_list PySem.F.slot_list_append PySem.F.type_list_append (pd_var 2) (pds_cons (pd_bin g_add (pd_bin g_repX (pd_tup (pds_cons (pd_tup (pds_cons pd_str (pds_cons (pd_tup pds_nil) (pds_cons (pd_bin g_repX (pd_tup (pds_cons (pd_var 0) pds_nil)) pd_int) pds_nil)))) pds_nil)) pd_int) (pd_bin g_repX (pd_tup (pds_cons (pd_var 0) pds_nil)) pd_int)) pds_nil)))
    (psds_cons (psd_asg (pd_tup (pds_cons pd_str (pds_cons (pd_tup (pds_cons (pd_tup (pds_cons pd_str (pds_cons (pd_tup pds_nil) pds_nil))) pds_nil)) pds_nil))) (pgd_name 3 nd).pg)
    (psds_cons (psd_expr (pd_meth m_append PySem.F.plainAttrs_list PySem.F.slot_list_append PySem.F.type_list_append (pd_var 2) (pds_cons (pd_bin g_add (pd_bin g_add (pd_bin g_repX (pd_tup (pds_cons (pd_tup (pds_cons pd_str (pds_cons (pd_tup pds_nil) (pds_cons (pd_bin g_repX (pd_tup (pds_cons (pd_var 3) pds_nil)) pd_int) pds_nil)))) pds_nil)) pd_int) (pd_bin g_repX (pd_tup (pds_cons (pd_var 0) pds_nil)) pd_int)) (pd_bin g_repX (pd_tup (pds_cons (pd_var 3) pds_nil)) pd_int)) pds_nil)))
    (psds_cons (psd_expr (pd_meth m_append PySem.F.plainAttrs_list PySem.F.slot_list_append PySem.F.type_list_append (pd_var 2) (pds_cons (pd_tup (pds_cons (pd_fn (ok__law_loops T) (en.room.mono (by decide)) en.gu tk (pds_cons pd_int (pds_cons (pd_tup (pds_cons pd_str (pds_cons (pd_tup pds_nil) (pds_cons (pd_tup (pds_cons (pd_tup (pds_cons pd_str (pds_cons (pd_var 1) pds_nil))) pds_nil)) (pds_cons (pd_tup (pds_cons (pd_var 0) pds_nil)) pds_nil))))) pds_nil))) pds_nil)) pds_nil)))
    (psds_cons (psd_expr (pd_meth m_append PySem.F.plainAttrs_list PySem.F.slot_list_append PySem.F.type_list_append (pd_var 2) (pds_cons (pd_bin g_add (pd_bin g_repX (pd_tup (pds_cons (pd_tup (pds_cons pd_str (pds_cons (pd_tup pds_nil) (pds_cons (pd_tup (pds_cons (pd_tup (pds_cons pd_str (pds_cons (pd_var 1) pds_nil))) pds_nil)) (pds_cons (pd_bin g_repX (pd_tup (pds_cons (pd_var 0) pds_nil)) pd_int) pds_nil))))) pds_nil)) pd_int) (pd_bin g_repX (pd_tup (pds_cons (pd_var 0) pds_nil)) pd_int)) pds_nil)))
    (psds_cons (psd_expr (pd_meth m_append PySem.F.plainAttrs_list PySem.F.slot_list_append PySem.F.type_list_append (pd_var 2) (pds_cons (pd_tup (pds_cons (pd_tup (pds_cons pd_str (pds_cons (pd_tup pds_nil) (pds_cons (pd_tup (pds_cons (pd_tup (pds_cons pd_str (pds_cons (pd_var 1) pds_nil))) pds_nil)) (pds_cons (pd_tup (pds_cons (pd_fn (ok__law_loops T) (en.room.mono (by decide)) en.gu tk (pds_cons pd_int (pds_cons (pd_var 0) pds_nil))) pds_nil)) pds_nil))))) pds_nil)) pds_nil)))
    (psds_cons (psd_expr (pd_meth m_append PySem.F.plainAttrs_list PySem.F.slot_list_append PySem.F.type_list_append (pd_var 2) (pds_cons (pd_tup (pds_cons (pd_tup (pds_cons pd_str (pds_cons (pd_tup pds_nil) (pds_cons (pd_tup (pds_cons (pd_tup (pds_cons pd_str (pds_cons (pd_tup pds_nil) pds_nil))) (pds_cons (pd_tup (pds_cons pd_str (pds_cons (pd_tup pds_nil) pds_nil))) (pds_cons (pd_tup (pds_cons pd_str (pds_cons (pd_var 1) pds_nil))) pds_nil)))) (pds_cons (pd_tup (pds_cons (pd_var 0) pds_nil)) pds_nil))))) pds_nil)) pds_nil)))
    (psds_cons (psd_asg (pd_keep (pf_cat (pd_keep (pf_lc rfl nd (pid_seq pd_str) (own := [("_law_sign", 6)]) (blkOk_by (by kernel_rfl)) (plc_no (fun _ _ _ _ _ => (pgx_name 6 nd)) (fun _ _ _ _ _ => (pd_bin g_add pd_str (pd_var 6)))))) (pd_keep (pf_lc rfl nd (pid_seq pd_str) (own := [("_law_sign", 6)]) (blkOk_by (by kernel_rfl)) (plc_no (fun _ _ _ _ _ => (pgx_name 6 nd)) (fun _ _ _ _ _ => (pd_bin g_add pd_str (pd_var 6)))))))) (pgd_name 4 nd).pg)
    (psds_cons (psd_expr (pd_meth m_append PySem.F.plainAttrs_list PySem.F.slot_list_append PySem.F.type_list_append (pd_var 2) (pds_cons (pd_tup (pds_cons (pd_tup (pds_cons pd_str (pds_cons (pd_tup pds_nil) (pds_cons (pd_callT (hv := bv_tuple) b_tuple T.n_tuple (pds_cons (pd_keep (pf_lc rfl nd (pid_seq (pd_var 4)) (own := [("_law_name", 7)]) (blkOk_by (by kernel_rfl)) (plc_no (fun _ _ _ _ _ => (pgx_name 7 nd)) (fun _ _ _ _ _ => (pd_tup (pds_cons (pd_var 7) (pds_cons (pd_var 1) pds_nil))))))) pds_nil)) (pds_cons (pd_tup (pds_cons (pd_var 0) pds_nil)) pds_nil))))) pds_nil)) pds_nil)))
    (psds_freeze (i := 2) (psds_one (psd_ret (pd_cmp (g_eq en.u64) (pd_keep (pf_lc rfl nd (pid_seq (pd_var 2)) (own := [("_law_one", 0)]) (blkOk_by (by kernel_rfl)) (plc_if (fun _ _ _ _ _ => (pgx_name 0 nd)) (fun _ _ _ _ _ => (pb_w (pw_orD (pb_cmp g_isN (pd_fn (ok_is_program T) (en.room.mono (by decide)) en.gu takes0 (pds_cons (pd_var 0) pds_nil)) pd_bl (by rfl)) (pw_or1D (pb_cmp g_isN (pd_fn (ok_need_program T) (en.room.mono (by decide)) en.gu takes0 (pds_cons (pd_var 0) pds_nil)) pd_non (by rfl)))))) (fun _ _ _ _ _ => (pd_var 0))))) (pd_keep (pf_lst pds_nil)) (by rfl))))))))))))))))))
theorem sc_law : FnScope ["_law_script", "_law_tape", "_law_k", "_law_none_here", "_law_deed", "_law_odd", "_law_limit", "_law_number"] ["_law_script"] (defScope st_law) := ⟨rfl, rfl, rfl, by decide +kernel, rfl, by decide +kernel, by decide +kernel⟩
theorem ok_law (M : TxM K mg base cs) : Fn P w K mg base "law" 1 28 (m_law fun j => (cs j).2) :=
  have T := M.txt
  fn_mkT (N := ["_law_script", "_law_tape", "_law_k", "_law_none_here", "_law_deed", "_law_odd", "_law_limit", "_law_number"]) (ps := ["_law_script"]) (r := b_law fun j => (cs j).2) T.d_law M.mk_0 sc_law fun f A outer s H E en tk =>
  have nd := sc_law.nd
  (psds_cons (psd_asg (pd_own (pf_lst (pds_cons pd_int (pds_cons pd_int pds_nil)))) (pgd_name 1 nd).pg)
    (psds_cons (psd_for en.hp rfl (pid_range1 T.n_range (pds_cons (pd_callB (hv := bv_min) (b_min rfl) T.n_min (pds_cons pd_int (pds_cons (pd_callB (hv := bv_max) (b_max rfl) T.n_max (pds_cons pd_int (pds_cons (pd_callB (hv := bv_len) b_len T.n_len (pds_cons (pd_var 0) pds_nil)) pds_nil))) pds_nil))) pds_nil)) (pgd_name 2 nd).pg (psds_local (psds_cons (psd_asg (pd_fn (ok__law_none T) (en.room.mono (by decide)) en.gu tk (pds_cons (pd_var 0) (pds_cons (pd_var 1) pds_nil))) (pgd_name 3 nd).pg)
    (psds_cons (psd_if (pb_cmp g_isN (pd_fn (ok_is_program T) (en.room.mono (by decide)) en.gu tk (pds_cons (pd_var 3) pds_nil)) pd_bl (by rfl)) (psds_one (psd_ret pd_bl)) psds_nil)
    (psds_cons (psd_for en.hp rfl (pid_seq (pd_tup (pds_cons (pd_fnv (ok_need_program T)) (pds_cons (pd_fnv (ok_program_boxes T)) (pds_cons (pd_fnv (ok_is_plain T)) (pds_cons (pd_fnv (ok_program_step T)) (pds_cons (pd_fnv (ok_shortened T)) (pds_cons (pd_fnv (ok_loops_in T)) pds_nil)))))))) (pgd_name 4 nd).pg (psds_one (psd_if (pb_cmp (g_ne en.u64) (pd_lamF (k := 25) (j := 0) (q := "law.<locals>.<lambda>") (cap := [3, 4]) (thk__law_tried T) T.d__law_tried sc__law_tried M.mk_0 (en.room.mono (by decide)) en.gu (fun A outer s H E f c_ en tk => (pd_callV (hall_cons (ok_need_program T) (en.room.mono (by decide)) (hall_cons (ok_program_boxes T) (en.room.mono (by decide)) (hall_cons (ok_is_plain T) (en.room.mono (by decide)) (hall_cons (ok_program_step T) (en.room.mono (by decide)) (hall_cons (ok_shortened T) (en.room.mono (by decide)) (hall_cons (ok_loops_in T) (en.room.mono (by decide)) hall_nil)))))) en.gu tk (pds_cons (pd_var 3) pds_nil)))) (pd_keep (pf_lst (pds_cons pd_str pds_nil))) (by rfl)) (psds_one (psd_ret pd_bl)) psds_nil)))
    (psds_cons (psd_if (pb_cmp (g_ne en.u64) (pd_lamF (k := 25) (j := 0) (q := "law.<locals>.<lambda>") (cap := [3]) (thk__law_tried T) T.d__law_tried sc__law_tried M.mk_0 (en.room.mono (by decide)) en.gu (fun A outer s H E f c_ en tk => (pd_fn (ok_run T) (en.room.mono (by decide)) en.gu tk (pds_cons (pd_var 3) (pds_cons pd_non (pds_cons pd_non pds_nil)))))) (pd_keep (pf_lst (pds_cons pd_str pds_nil))) (by rfl)) (psds_one (psd_ret pd_bl)) psds_nil)
    (psds_cons (psd_asg (pd_keep (pf_lst (pds_cons pd_non (pds_cons (pd_keep (pf_lst pds_nil)) (pds_cons (pd_own (pf_disp (ppd_cons pd_str pd_bl ppd_nil))) (pds_cons (pd_own (pf_disp (ppd_cons pd_str pd_int ppd_nil))) (pds_cons (pd_own (pf_disp (ppd_cons pd_int pd_int ppd_nil))) (pds_cons (pd_own (pf_disp (ppd_cons pd_str pd_str ppd_nil))) (pds_cons (pd_own (pf_disp (ppd_cons pd_str pd_non ppd_nil))) (pds_cons (pd_tup (pds_cons (pd_tup (pds_cons pd_str (pds_cons pd_int pds_nil))) pds_nil)) pds_nil)))))))))) (pgd_name 5 nd).pg)
    (psds_cons (psd_asg (pd_ix (pd_var 5) (pd_fn (ok__law_draw T) (en.room.mono (by decide)) en.gu tk (pds_cons (pd_var 0) (pds_cons (pd_var 1) (pds_cons pd_int pds_nil))))) (pgd_name 5 nd).pg)
    (psds_cons (psd_if (pb_cmp (g_ne en.u64) (pd_lamF (k := 25) (j := 0) (q := "law.<locals>.<lambda>") (cap := [5]) (thk__law_tried T) T.d__law_tried sc__law_tried M.mk_0 (en.room.mono (by decide)) en.gu (fun A outer s H E f c_ en tk => (pd_fn (ok_run T) (en.room.mono (by decide)) en.gu tk (pds_cons (pd_tup pds_nil) (pds_cons (pd_var 5) (pds_cons pd_int pds_nil)))))) (pd_keep (pf_lst (pds_cons pd_str pds_nil))) (by rfl)) (psds_one (psd_ret pd_bl)) psds_nil)
    (psds_cons (psd_asg (pd_ix (pd_keep (pf_lst (pds_cons pd_non (pds_cons (pd_neg pd_int) (pds_cons pd_int (pds_cons pd_bl (pds_cons pd_str (pds_cons (pd_keep (pf_lst (pds_cons pd_int pds_nil))) (pds_cons (pd_bin g_pow pd_int pd_int) pds_nil))))))))) (pd_fn (ok__law_draw T) (en.room.mono (by decide)) en.gu tk (pds_cons (pd_var 0) (pds_cons (pd_var 1) (pds_cons pd_int pds_nil))))) (pgd_name 6 nd).pg)
    (psds_one (psd_for en.hp rfl (pid_seq (pd_tup (pds_cons pd_int (pds_cons (pd_bin g_add (pd_bin g_pow (pd_bin g_pow pd_int pd_int) pd_int) pd_int) pds_nil)))) (pgd_name 7 nd).pg (psds_one (psd_if (pb_cmp (g_ne en.u64) (pd_lamF (k := 25) (j := 0) (q := "law.<locals>.<lambda>") (cap := [6, 7]) (thk__law_tried T) T.d__law_tried sc__law_tried M.mk_0 (en.room.mono (by decide)) en.gu (fun A outer s H E f c_ en tk => (pd_fn (ok_run T) (en.room.mono (by decide)) en.gu tk (pds_cons (pd_tup pds_nil) (pds_cons (pd_own (pf_disp (ppd_cons pd_str (pd_var 7) ppd_nil))) (pds_cons (pd_var 6) pds_nil)))))) (pd_keep (pf_lst (pds_cons pd_str pds_nil))) (by rfl)) (psds_one (psd_ret pd_bl)) psds_nil))))))))))))))
    (psds_cons (psd_for en.hp rfl (pid_seq (pd_tup (pds_cons pd_int (pds_cons pd_int pds_nil)))) (pgd_name 6 nd).pg (psds_one (psd_if (pb_w (pw_orD (pb_cmp (g_neTD en.u80) (pd_fn (ok_run T) (en.room.mono (by decide)) en.gu tk (pds_cons (pd_tup pds_nil) (pds_cons (pd_own (pf_disp (ppd_cons pd_str pd_int (ppd_cons pd_str pd_int ppd_nil)))) (pds_cons (pd_var 6) pds_nil)))) (pd_tup (pds_cons (pd_own (pf_disp (ppd_cons pd_str pd_int (ppd_cons pd_str pd_int ppd_nil)))) (pds_cons pd_int pds_nil))) (by rfl)) (pw_or1D (pb_cmp (g_ne en.u64) (pd_fn (ok_shortened T) (en.room.mono (by decide)) en.gu tk (pds_cons (pd_tup pds_nil) pds_nil)) (pd_tup pds_nil) (by rfl))))) (psds_one (psd_ret pd_bl)) psds_nil)))
    (psds_cons (psd_if (pb_w (pw_orD (pb_cmp g_isN (pd_fn (ok_is_plain T) (en.room.mono (by decide)) en.gu tk (pds_cons (pd_tup pds_nil) pds_nil)) pd_bl (by rfl)) (pw_orD (pb_cmp (g_neB en.u64) (pd_fn (ok_program_step T) (en.room.mono (by decide)) en.gu tk (pds_cons (pd_tup pds_nil) pds_nil)) (pd_own pf_dnew) (by rfl)) (pw_orD (pb_cmp (g_ne en.u64) (pd_fn (ok_program_boxes T) (en.room.mono (by decide)) en.gu tk (pds_cons (pd_tup pds_nil) pds_nil)) (pd_keep (pf_lst pds_nil)) (by rfl)) (pw_or1D (pb_cmp (g_ne en.u64) (pd_fn (ok_loops_in T) (en.room.mono (by decide)) en.gu tk (pds_cons (pd_tup pds_nil) pds_nil)) pd_int (by rfl))))))) (psds_one (psd_ret pd_bl)) psds_nil)
    (psds_one (psd_ret (pd_fn0 (ok__law_bounds_right T) (en.room.mono (by decide)) en.gu tk)))))))
end
/-! the head -/
theorem txt {K : Fg} {h : Heap} {mg : Str → Option Value} (X : K.In h) (G : h.Ns mainGlobals mg) (c : He.SaysD fa fn K) (hd : NoDig K) (hl : ∀ (i : Nat) (p : Str × D), li[i]? = some p → litF K p = true) (hx : xhB xh K = true) : Txt K mg where
  d_is_name := (c.def_ 0 (d := dd_is_name) rfl).elim fun fd F => ⟨_, fd, fun_of F, He.glo_ok X G (c.fact 0 (f := .glo "is_name") rfl), F.bindsN fun _ _ _ _ _ _ us hl => match us, hl with | [_], _ => rfl⟩
  d_is_whole := (c.def_ 1 (d := dd_is_whole) rfl).elim fun fd F => ⟨_, fd, fun_of F, He.glo_ok X G (c.fact 1 (f := .glo "is_whole") rfl), F.bindsN fun _ _ _ _ _ _ us hl => match us, hl with | [_], _ => rfl⟩
  d_is_among := (c.def_ 2 (d := dd_is_among) rfl).elim fun fd F => ⟨_, fd, fun_of F, He.glo_ok X G (c.fact 2 (f := .glo "is_among") rfl), F.bindsN fun _ _ _ _ _ _ us hl => match us, hl with | [_, _, _], _ => rfl⟩
  d_mono_degree := (c.def_ 3 (d := dd_mono_degree) rfl).elim fun fd F => ⟨_, fd, fun_of F, He.glo_ok X G (c.fact 3 (f := .glo "mono_degree") rfl), F.bindsN fun _ _ _ _ _ _ us hl => match us, hl with | [_], _ => rfl⟩
  d_is_mono := (c.def_ 4 (d := dd_is_mono) rfl).elim fun fd F => ⟨_, fd, fun_of F, He.glo_ok X G (c.fact 4 (f := .glo "is_mono") rfl), F.bindsN fun _ _ _ _ _ _ us hl => match us, hl with | [_], _ => rfl⟩
  d_is_poly := (c.def_ 5 (d := dd_is_poly) rfl).elim fun fd F => ⟨_, fd, fun_of F, He.glo_ok X G (c.fact 5 (f := .glo "is_poly") rfl), F.bindsN fun _ _ _ _ _ _ us hl => match us, hl with | [_], _ => rfl⟩
  d_is_small := (c.def_ 6 (d := dd_is_small) rfl).elim fun fd F => ⟨_, fd, fun_of F, He.glo_ok X G (c.fact 6 (f := .glo "is_small") rfl), F.bindsN fun _ _ _ _ _ _ us hl => match us, hl with | [_], _ => rfl⟩
  d_is_kind := (c.def_ 7 (d := dd_is_kind) rfl).elim fun fd F => ⟨_, fd, fun_of F, He.glo_ok X G (c.fact 7 (f := .glo "is_kind") rfl), F.bindsN fun _ _ _ _ _ _ us hl => match us, hl with | [_], _ => rfl⟩
  d_common_divisor := (c.def_ 8 (d := dd_common_divisor) rfl).elim fun fd F => ⟨_, fd, fun_of F, He.glo_ok X G (c.fact 8 (f := .glo "common_divisor") rfl), F.bindsN fun _ _ _ _ _ _ us hl => match us, hl with | [_, _], _ => rfl⟩
  d_is_fraction := (c.def_ 9 (d := dd_is_fraction) rfl).elim fun fd F => ⟨_, fd, fun_of F, He.glo_ok X G (c.fact 9 (f := .glo "is_fraction") rfl), F.bindsN fun _ _ _ _ _ _ us hl => match us, hl with | [_], _ => rfl⟩
  d_is_share := (c.def_ 10 (d := dd_is_share) rfl).elim fun fd F => ⟨_, fd, fun_of F, He.glo_ok X G (c.fact 10 (f := .glo "is_share") rfl), F.bindsN fun _ _ _ _ _ _ us hl => match us, hl with | [_], _ => rfl⟩
  d_are_pairs := (c.def_ 11 (d := dd_are_pairs) rfl).elim fun fd F => ⟨_, fd, fun_of F, He.glo_ok X G (c.fact 11 (f := .glo "are_pairs") rfl), F.bindsN fun _ _ _ _ _ _ us hl => match us, hl with | [_, _], _ => rfl⟩
  d_is_form := (c.def_ 12 (d := dd_is_form) rfl).elim fun fd F => ⟨_, fd, fun_of F, He.glo_ok X G (c.fact 12 (f := .glo "is_form") rfl), F.bindsN fun _ _ _ _ _ _ us hl => match us, hl with | [_], _ => rfl⟩
  d_are_named := (c.def_ 13 (d := dd_are_named) rfl).elim fun fd F => ⟨_, fd, fun_of F, He.glo_ok X G (c.fact 13 (f := .glo "are_named") rfl), F.bindsN fun _ _ _ _ _ _ us hl => match us, hl with | [_, _, _], _ => rfl⟩
  d_are_rows_within := (c.def_ 14 (d := dd_are_rows_within) rfl).elim fun fd F => ⟨_, fd, fun_of F, He.glo_ok X G (c.fact 14 (f := .glo "are_rows_within") rfl), F.bindsN fun _ _ _ _ _ _ us hl => match us, hl with | [_, _], _ => rfl⟩
  d_is_row := (c.def_ 15 (d := dd_is_row) rfl).elim fun fd F => ⟨_, fd, fun_of F, He.glo_ok X G (c.fact 15 (f := .glo "is_row") rfl), F.bindsN fun _ _ _ _ _ _ us hl => match us, hl with | [_, _], _ => rfl⟩
  d_are_rows := (c.def_ 16 (d := dd_are_rows) rfl).elim fun fd F => ⟨_, fd, fun_of F, He.glo_ok X G (c.fact 16 (f := .glo "are_rows") rfl), F.bindsN fun _ _ _ _ _ _ us hl => match us, hl with | [_, _], _ => rfl⟩
  d_all_rows := (c.def_ 17 (d := dd_all_rows) rfl).elim fun fd F => ⟨_, fd, fun_of F, He.glo_ok X G (c.fact 17 (f := .glo "all_rows") rfl), F.bindsN fun _ _ _ _ _ _ us hl => match us, hl with | [_], _ => rfl⟩
  d_is_program := (c.def_ 18 (d := dd_is_program) rfl).elim fun fd F => ⟨_, fd, fun_of F, He.glo_ok X G (c.fact 18 (f := .glo "is_program") rfl), F.bindsN fun _ _ _ _ _ _ us hl => match us, hl with | [_], _ => rfl⟩
  d_need_program := (c.def_ 19 (d := dd_need_program) rfl).elim fun fd F => ⟨_, fd, fun_of F, He.glo_ok X G (c.fact 19 (f := .glo "need_program") rfl), F.bindsN fun _ _ _ _ _ _ us hl => match us, hl with | [_], _ => rfl⟩
  d_program_boxes := (c.def_ 20 (d := dd_program_boxes) rfl).elim fun fd F => ⟨_, fd, fun_of F, He.glo_ok X G (c.fact 20 (f := .glo "program_boxes") rfl), F.bindsN fun _ _ _ _ _ _ us hl => match us, hl with | [_], _ => rfl⟩
  d_Runner___init__ := ⟨He.cls_ok (c.fact 69 (f := .cls "Runner") rfl), He.meth_ok (c.fact 73 (f := .meth "Runner" "__init__") rfl), (c.def_ 21 (d := dd_Runner___init__) rfl).elim fun fd F => ⟨fd, fun_of F, F.bindsN fun _ _ _ _ _ _ us hl => match us, hl with | [_, _, _], _ => rfl⟩⟩
  d_Runner_put := ⟨He.cls_ok (c.fact 69 (f := .cls "Runner") rfl), He.meth_ok (c.fact 74 (f := .meth "Runner" "put") rfl), (c.def_ 22 (d := dd_Runner_put) rfl).elim fun fd F => ⟨fd, fun_of F, F.bindsN fun _ _ _ _ _ _ us hl => match us, hl with | [_, _], _ => rfl⟩⟩
  d_Runner_go := ⟨He.cls_ok (c.fact 69 (f := .cls "Runner") rfl), He.meth_ok (c.fact 75 (f := .meth "Runner" "go") rfl), (c.def_ 23 (d := dd_Runner_go) rfl).elim fun fd F => ⟨fd, fun_of F, F.bindsN fun _ _ _ _ _ _ us hl => match us, hl with | [_, _], _ => rfl⟩⟩
  d_are_numbers := (c.def_ 24 (d := dd_are_numbers) rfl).elim fun fd F => ⟨_, fd, fun_of F, He.glo_ok X G (c.fact 24 (f := .glo "are_numbers") rfl), F.bindsN fun _ _ _ _ _ _ us hl => match us, hl with | [_], _ => rfl⟩
  d_run := (c.def_ 25 (d := dd_run) rfl).elim fun fd F => ⟨_, fd, fun_of F, He.glo_ok X G (c.fact 25 (f := .glo "run") rfl), F.bindsN fun _ _ _ _ _ _ us hl => match us, hl with | [_, _, _], _ => rfl⟩
  d_is_plain := (c.def_ 26 (d := dd_is_plain) rfl).elim fun fd F => ⟨_, fd, fun_of F, He.glo_ok X G (c.fact 26 (f := .glo "is_plain") rfl), F.bindsN fun _ _ _ _ _ _ us hl => match us, hl with | [_], _ => rfl⟩
  d_program_step := (c.def_ 27 (d := dd_program_step) rfl).elim fun fd F => ⟨_, fd, fun_of F, He.glo_ok X G (c.fact 27 (f := .glo "program_step") rfl), F.bindsN fun _ _ _ _ _ _ us hl => match us, hl with | [_], _ => rfl⟩
  d_short_rows := (c.def_ 28 (d := dd_short_rows) rfl).elim fun fd F => ⟨_, fd, fun_of F, He.glo_ok X G (c.fact 28 (f := .glo "short_rows") rfl), F.bindsN fun _ _ _ _ _ _ us hl => match us, hl with | [_], _ => rfl⟩
  d_shortened := (c.def_ 29 (d := dd_shortened) rfl).elim fun fd F => ⟨_, fd, fun_of F, He.glo_ok X G (c.fact 29 (f := .glo "shortened") rfl), F.bindsN fun _ _ _ _ _ _ us hl => match us, hl with | [_], _ => rfl⟩
  d_loops_in := (c.def_ 30 (d := dd_loops_in) rfl).elim fun fd F => ⟨_, fd, fun_of F, He.glo_ok X G (c.fact 30 (f := .glo "loops_in") rfl), F.bindsN fun _ _ _ _ _ _ us hl => match us, hl with | [_], _ => rfl⟩
  d__law_draw := (c.def_ 31 (d := dd__law_draw) rfl).elim fun fd F => ⟨_, fd, fun_of F, He.glo_ok X G (c.fact 31 (f := .glo "_law_draw") rfl), F.bindsN fun _ _ _ _ _ _ us hl => match us, hl with | [_, _, _], _ => rfl⟩
  d__law_kind := (c.def_ 32 (d := dd__law_kind) rfl).elim fun fd F => ⟨_, fd, fun_of F, He.glo_ok X G (c.fact 32 (f := .glo "_law_kind") rfl), F.bindsN fun _ _ _ _ _ _ us hl => match us, hl with | [_], _ => rfl⟩
  d__law_tried := (c.def_ 33 (d := dd__law_tried) rfl).elim fun fd F => ⟨_, fd, fun_of F, He.glo_ok X G (c.fact 33 (f := .glo "_law_tried") rfl), F.bindsN fun _ _ _ _ _ _ us hl => match us, hl with | [_], _ => rfl⟩
  d__law_loops := (c.def_ 34 (d := dd__law_loops) rfl).elim fun fd F => ⟨_, fd, fun_of F, He.glo_ok X G (c.fact 34 (f := .glo "_law_loops") rfl), F.bindsN fun _ _ _ _ _ _ us hl => match us, hl with | [_, _], _ => rfl⟩
  d__law_none := (c.def_ 35 (d := dd__law_none) rfl).elim fun fd F => ⟨_, fd, fun_of F, He.glo_ok X G (c.fact 35 (f := .glo "_law_none") rfl), F.bindsN fun _ _ _ _ _ _ us hl => match us, hl with | [_, _], _ => rfl⟩
  d__law_bounds_right := (c.def_ 36 (d := dd__law_bounds_right) rfl).elim fun fd F => ⟨_, fd, fun_of F, He.glo_ok X G (c.fact 36 (f := .glo "_law_bounds_right") rfl), F.bindsN fun _ _ _ _ _ _ us hl => match us, hl with | [], _ => rfl⟩
  d_law := (c.def_ 37 (d := dd_law) rfl).elim fun fd F => ⟨_, fd, fun_of F, He.glo_ok X G (c.fact 37 (f := .glo "law") rfl), F.bindsN fun _ _ _ _ _ _ us hl => match us, hl with | [_], _ => rfl⟩
  n_ValueError := He.free_ok X G (c.fact 38 (f := .free "ValueError") rfl)
  n_abs := He.free_ok X G (c.fact 39 (f := .free "abs") rfl)
  n_all := He.free_ok X G (c.fact 40 (f := .free "all") rfl)
  n_any := He.free_ok X G (c.fact 41 (f := .free "any") rfl)
  n_bool := He.free_ok X G (c.fact 42 (f := .free "bool") rfl)
  n_dict := He.free_ok X G (c.fact 43 (f := .free "dict") rfl)
  n_int := He.free_ok X G (c.fact 44 (f := .free "int") rfl)
  n_isinstance := He.free_ok X G (c.fact 45 (f := .free "isinstance") rfl)
  n_len := He.free_ok X G (c.fact 46 (f := .free "len") rfl)
  n_max := He.free_ok X G (c.fact 47 (f := .free "max") rfl)
  n_min := He.free_ok X G (c.fact 48 (f := .free "min") rfl)
  n_range := He.free_ok X G (c.fact 49 (f := .free "range") rfl)
  n_sorted := He.free_ok X G (c.fact 50 (f := .free "sorted") rfl)
  n_str := He.free_ok X G (c.fact 51 (f := .free "str") rfl)
  n_sum := He.free_ok X G (c.fact 52 (f := .free "sum") rfl)
  n_tuple := He.free_ok X G (c.fact 53 (f := .free "tuple") rfl)
  n_zip := He.free_ok X G (c.fact 54 (f := .free "zip") rfl)
  g_GREATEST := He.int_ok X G (c.fact 55 (f := .int "GREATEST" 10000000000000000000000000000000000000000000000000000000000000000000000000000000000000000000000000000000000000000000000000000000000000000000000000000000000000000000000000000000000000000000000000000000000000000000000000000000000000000000000000000000000000000000000000000000000000000000000000000000000000000000000000000000000000000000000000000000000000000000000000000000000000000000000000000000000000000000000000000000000000000000000000000000000000000000000000000000000000000000000000000000000000000000000000000000000000000000000000000000000000000000000000000000000000000000000000000000000000000000000000000000000000000000000000000000000000000000000000000000000000000000000000000000000000000000000000000000000000000000000000000000000000000000000000000000000000000000000000000000000000000000000000000000000000000000000000000000000000000000000000000000000000000000000000000000000000000000000000000000000000000000000000000000000000000000000000000000000000000000000000000000000000000000000000000000000000000) rfl)
  g_LETTERS := He.str_ok X G (c.fact 56 (f := .str "LETTERS" "abcdefghijklmnopqrstuvwxyz") rfl)
  g_MOST_DEEP := He.int_ok X G (c.fact 57 (f := .int "MOST_DEEP" 3) rfl)
  g_MOST_DEGREE := He.int_ok X G (c.fact 58 (f := .int "MOST_DEGREE" 12) rfl)
  g_MOST_FORMS := He.int_ok X G (c.fact 59 (f := .int "MOST_FORMS" 40) rfl)
  g_MOST_LETTERS := He.int_ok X G (c.fact 60 (f := .int "MOST_LETTERS" 8) rfl)
  g_MOST_LIMIT := He.int_ok X G (c.fact 61 (f := .int "MOST_LIMIT" 20000) rfl)
  g_MOST_NUMBER := He.int_ok X G (c.fact 62 (f := .int "MOST_NUMBER" 10000000000000000000000000000000000000000000000000000000000000000000000000000000000000000000000000000000000000000000000000000000000000000000000000000000000000000000000000000000000000000000000000000000000000000000000000000000000000000000000000000000000000000000000000000000000000000000000000000000000000000000000000000000000000000000000000000000000000000000000000000000000000000000000000000000000000000000000000000000000000000000000000000000000000000000000000000000000000000000000000000000000000000000000000000000000000000000000000000000000000000000000000000000000000000000000000000000000000000000000000000000000000000000000000000000000000000000000000000000000000000000000000000000000000000000000000000000000000000000000000000000000000000000000000000000000000000000000000000000000000000000000000000000000000000000000000000000000000000000000000000000000000000000000000000000000000000000000000000000000000000000000000000000000000000000000000000000000000000000000000000000000000000000000000000000000000000) rfl)
  g_MOST_PAIRS_forms := He.int_ok X G (c.fact 63 (f := .int "MOST_PAIRS_forms" 1000) rfl)
  g_MOST_PAIRS_programs := He.int_ok X G (c.fact 64 (f := .int "MOST_PAIRS_programs" 6) rfl)
  g_MOST_PLACE := He.int_ok X G (c.fact 65 (f := .int "MOST_PLACE" 99) rfl)
  g_MOST_ROWS := He.int_ok X G (c.fact 66 (f := .int "MOST_ROWS" 12) rfl)
  g_MOST_TERMS := He.int_ok X G (c.fact 67 (f := .int "MOST_TERMS" 300) rfl)
  g_MOST_TOGETHER := He.int_ok X G (c.fact 68 (f := .int "MOST_TOGETHER" 60) rfl)
  dig := hd
  cf_Runner_deeds := ⟨He.cls_ok (c.fact 69 (f := .cls "Runner") rfl), He.noat_ok (c.fact 70 (f := .noat "Runner" "deeds") rfl)⟩
  cf_Runner_held := ⟨He.cls_ok (c.fact 69 (f := .cls "Runner") rfl), He.noat_ok (c.fact 71 (f := .noat "Runner" "held") rfl)⟩
  cf_Runner_limit := ⟨He.cls_ok (c.fact 69 (f := .cls "Runner") rfl), He.noat_ok (c.fact 72 (f := .noat "Runner" "limit") rfl)⟩
  mk_Runner := ⟨He.mkr_ok (c.fact 76 (f := .mkr "Runner") rfl), He.glo_ok X G (c.fact 77 (f := .glo "Runner") rfl)⟩
  xc := (clsB_ok X G (both hx).1).1
  xn := (clsB_ok X G (both hx).1).2
  xl := (leB_ok X G (both (both hx).2).1).1
  xa := (leB_ok X G (both (both hx).2).1).2
  r_BadQuestion := raB_ok X G (List.all_eq_true.mp (both (both (both hx).2).2).1 "BadQuestion" (by decide))
  r_OutOfPlace := raB_ok X G (List.all_eq_true.mp (both (both (both hx).2).2).1 "OutOfPlace" (by decide))
  r_TooGreat := raB_ok X G (List.all_eq_true.mp (both (both (both hx).2).2).1 "TooGreat" (by decide))
end DL
section
open PySem PySem.W PySem.Calls PyProof.Rows
theorem DL.holds_of (hm : ∀ (cs : List (Addr × Addr)) (ns : List Int), cs.length = 1 → ns.length ≤ 63 → ∃ S, DL.m_law (fun j => (DL.tbs cs).getD j 0) [.lst (ns.map .int)] (DL.cells cs DL.qsT) = .ok (.bl true) S) : PySem.Challenge.rw_roundless_k79_programs_refused.Holds := by
  w_on; o_law
  refine HandSHeadRun.head_any (r := OpenLaw.row PySem.Challenge.rw_roundless_k79_programs_refused) (q := view (OpenLaw.row PySem.Challenge.rw_roundless_k79_programs_refused).prog [150]) (H := DL.hk) (ob := DL.ob) (M := 12000) (loose := DL.loose) (d := HandSHeadRun.topDef (OpenLaw.row PySem.Challenge.rw_roundless_k79_programs_refused).prog 150) (kwd := []) DL.ob_eq
    (by kernel_rfl) (fun s => by kernel_rfl) DL.run (by kernel_rfl) (by kernel_rfl) (by kernel_rfl) (by rfl) (by first | assumption | decide +kernel) (by decide +kernel) ⟨rfl, rfl, rfl, rfl, rfl, by decide +kernel⟩ ?hw ?hc
  case hw => w_witness2
  case hc =>
    refine DL.walkT (l := PySem.Challenge.rw_roundless_k79_programs_refused) (n := 63) (k := 28) (qs := DL.qsT) (m := fun l => DL.m_law fun j => l.getD j 0) rfl (by decide) (by kernel_rfl) ⟨rfl, by decide, by decide⟩ ?F (fun cs ns h1 h2 => hm cs ns h1.symm h2)
    intro w mg h Y G
    obtain ⟨K, KX, c, g, hg, ck⟩ := Y
    have e : (HandSHeadRun.topDef (OpenLaw.row PySem.Challenge.rw_roundless_k79_programs_refused).prog 150).name = ("law" : PySem.Str) := by kernel_rfl
    obtain ⟨t1, t2, t3, t4, t5, t6⟩ := DL.tabs_of KX G hg ck
    refine ⟨K, DL.tabL K DL.mkrs, KX, t1.symm, t2, t3, t4, t5, fun base _ _ tb => ?_⟩
    rw [e]
    have TX := DL.txt KX G (DL.SaysX.all c).1 (DL.SaysX.all c).2.1 (DL.SaysX.all c).2.2.1 (DL.SaysX.all c).2.2.2
    have M : DL.TxM K mg base (fun j => (DL.tabL K DL.mkrs).getD j (0, 0)) := ⟨TX, t6 base tb 0 _ rfl⟩
    have ef : (fun j => (DL.tbs (DL.tabL K DL.mkrs)).getD j 0) = fun j => ((DL.tabL K DL.mkrs).getD j (0, 0)).2 := DL.tbs_getD _
    rw [ef]
    exact DL.ok_law M
end
set_option Elab.async false
set_option linter.all false
set_option maxRecDepth 100000
set_option maxHeartbeats 4000000
set_option autoImplicit false
/-! Plain part: operations on what is known. -/
namespace DL
open PySem L2
section
variable {S : Sto} {i j : Int} {x y : Str} {b c : Bool} {Q : D → Sto → Prop} {QB : Bool → Sto → Prop}
theorem o_add (h : Q (.int (i + j)) S) : (Res.lift (gAdd S (.int i) (.int j)) S).post Q := h
theorem o_sub (h : Q (.int (i - j)) S) : (Res.lift (gSub S (.int i) (.int j)) S).post Q := h
theorem o_mul (f : mulFits i j = true) (h : Q (.int (i * j)) S) : (Res.lift (gMul S (.int i) (.int j)) S).post Q := p_lift (by unfold gMul; dsimp only; rw [if_pos f]) h
theorem o_mod (f : j ≠ 0) (h : Q (.int (i.fmod j)) S) : (Res.lift (gMod S (.int i) (.int j)) S).post Q := p_lift (by unfold gMod; dsimp only; rw [if_pos f]) h
theorem o_div (f : j ≠ 0 ∧ j.natAbs.log2 < 9000) (h : Q (.int (i.fdiv j)) S) : (Res.lift (gDiv S (.int i) (.int j)) S).post Q := p_lift (by unfold gDiv; dsimp only; rw [if_pos f]) h
theorem o_pow (f : 0 ≤ j ∧ j ≤ 1000000 ∧ i.natAbs < 2 ^ 64) (h : Q (.int (i ^ j.toNat)) S) : (Res.lift (gPow S (.int i) (.int j)) S).post Q := p_lift (by unfold gPow; dsimp only; rw [if_pos ⟨f.1, .inl f.2⟩]) h
theorem o_neg (h : Q (.int (-i)) S) : (Res.lift (gNeg S (.int i)) S).post Q := h
theorem o_lt (h : Q (.bl (decide (i < j))) S) : (Res.lift (gLt S (.int i) (.int j)) S).post Q := h
theorem o_le (h : Q (.bl (decide (i ≤ j))) S) : (Res.lift (gLe S (.int i) (.int j)) S).post Q := h
theorem o_gt (h : Q (.bl (decide (j < i))) S) : (Res.lift (gGt S (.int i) (.int j)) S).post Q := h
theorem o_ge (h : Q (.bl (decide (j ≤ i))) S) : (Res.lift (gGe S (.int i) (.int j)) S).post Q := h
theorem o_eqg {d e : D} {u v : PyData} (h1 : toPy S (deref S d) = some u) (h2 : toPy S (deref S e) = some v) (h3 : SeqAt.shaped u = true) (h4 : SeqAt.shaped v = true) (h : Q (.bl (PyData.eqv u v)) S) : (Res.lift (gEq S d e) S).post Q :=
  p_lift (by unfold gEq eqD; rw [h1, h2]; dsimp only; rw [h3, h4]; rfl) h
theorem o_neg_ {d e : D} {u v : PyData} (h1 : toPy S (deref S d) = some u) (h2 : toPy S (deref S e) = some v) (h3 : SeqAt.shaped u = true) (h4 : SeqAt.shaped v = true) (h : Q (.bl (!PyData.eqv u v)) S) : (Res.lift (gNe S d e) S).post Q :=
  p_lift (by unfold gNe eqD; rw [h1, h2]; dsimp only; rw [h3, h4]; rfl) h
theorem shaped_int : SeqAt.shaped (.int i) = true := by unfold SeqAt.shaped; simp [PyData.canLay0, PyData.depth]
theorem o_eqI (h : Q (.bl (i == j)) S) : (Res.lift (gEq S (.int i) (.int j)) S).post Q := o_eqg rfl rfl shaped_int shaped_int (by simpa [PyData.eqv] using h)
theorem o_neI (h : Q (.bl (!(i == j))) S) : (Res.lift (gNe S (.int i) (.int j)) S).post Q := o_neg_ rfl rfl shaped_int shaped_int (by simpa [PyData.eqv] using h)
theorem o_abs (h : Q (.int i.natAbs) S) : (Res.lift (gAbs S [.int i]) S).post Q := p_lift (a := .int i.natAbs) (by unfold gAbs; dsimp only; congr 2; omega) h
theorem o_tru (h : QB b S) : (Res.lift (truth S (.bl b)) S).post QB := h
theorem o_ixT {xs : List D} {d : D} (e : atI xs i = some d) (h : Q d S) : (Res.lift (gIx S (.tup xs) (.int i)) S).post Q := p_lift e h
theorem o_ixL {xs : List D} {d : D} (e : atI xs i = some d) (h : Q d S) : (Res.lift (gIx S (.lst xs) (.int i)) S).post Q := p_lift e h
theorem p_true {A B : Prop} (h : A) : (true = true → A) ∧ (true = false → B) := ⟨fun _ => h, fun z => nomatch z⟩
theorem p_false {A B : Prop} (h : B) : (false = true → A) ∧ (false = false → B) := ⟨fun z => (nomatch z), fun _ => h⟩
theorem p_ex {A : Type} {x : A} {R T : A → Prop} (e : R x) (h : T x) : ∃ x, R x ∧ T x := ⟨x, e, h⟩
theorem p_ex2 {A B : Type} {x : A} {y : B} {R T : A → B → Prop} (e : R x y) (h : T x y) : ∃ x y, R x y ∧ T x y := ⟨x, y, e, h⟩
theorem p_var2 {i : Nat} {δ : Sl} (h : ∃ d, δ[i]? = some (some d) ∧ Q d S) : (rVar i δ S).post Q := let ⟨_, e, q⟩ := h; p_var e q
theorem p_isT {k : Bool} {A B : Prop} (e : k = true) (h : A) : (k = true → A) ∧ (k = false → B) := by subst e; exact p_true h
theorem p_isF {k : Bool} {A B : Prop} (e : k = false) (h : B) : (k = true → A) ∧ (k = false → B) := by subst e; exact p_false h
end
local macro_rules | `(tactic| walk_at "1") => `(tactic| with_reducible first
  | refine s_seq ?_ | refine s_asg ?_ | refine s_ret ?_ | refine s_if ?_ | refine s_expr ?_ | refine s_next ?_ | refine s_brk ?_ | refine s_cont ?_ | refine s_for ?_ | refine s_while ?_
  | refine p_c ?_ | refine p_bin ?_ | refine p_as ?_ | refine p_cons ?_ | refine p_nil ?_ | refine p_un ?_ | refine p_call ?_ | refine p_if ?_ | refine p_own ?_
  | refine p_keep ?_ | refine p_tru ?_ | refine p_and ?_ | refine p_or ?_ | refine p_not ?_ | refine p_val ?_ | refine p_rand ?_ | refine p_ror ?_ | refine p_rnot ?_ | refine p_chain ?_
  | refine o_add ?_ | refine o_sub ?_ | refine o_lt ?_ | refine o_le ?_ | refine o_gt ?_ | refine o_ge ?_ | refine o_neg ?_ | refine o_eqI ?_ | refine o_neI ?_ | refine o_abs ?_ | refine o_tru ?_ | refine p_true ?_ | refine p_false ?_
  | refine s_par ?_ | refine p_yes ?_ | refine p_lc ?_ | refine p_seq ?_ | refine s_gnil ?_ | refine s_gcons ?_)
local macro_rules | `(tactic| walk_at "2") => `(tactic| first
  | walk_at "1"
  | (with_reducible refine p_var2 ?_)
  | ((with_reducible refine s_name ?_ ?_); (· exact Nat.le_of_ble_eq_true rfl); dsimp only [List.set_cons_zero, List.set_cons_succ])
  | (with_reducible refine p_tup ?_) | ((with_reducible refine ⟨?_, ?_⟩); (· exact Nat.le_of_ble_eq_true rfl))
  | ((with_reducible refine p_ex2 (x := ?_) (y := ?_) ?_ ?_); rotate_left; rotate_left; (· rfl); refine ⟨?_, ?_, ?_⟩; (· exact Nat.le_of_ble_eq_true rfl); (· exact Nat.le_of_ble_eq_true rfl); dsimp only [List.set_cons_zero, List.set_cons_succ])
  | ((with_reducible refine p_isT ?_ ?_); (· rfl)) | ((with_reducible refine p_isF ?_ ?_); (· rfl))
  | ((with_reducible refine p_ex (x := ?_) ?_ ?_); rotate_left; (· rfl)))
/-! a trial: the greatest common divisor -/
end DL
set_option Elab.async false
set_option linter.all false
set_option maxRecDepth 100000
set_option maxHeartbeats 4000000
set_option autoImplicit false
/-! Plain part: comprehensions that leave the store, answers that leave it. -/
namespace DL
open PySem L2
/-- an answer that leaves the store as it is -/
theorem same_of {m : Mir} {ds : List D} {d : D} {S : Sto} (h : (m ds S).post fun z S' => z = d ∧ S' = S) : m ds S = .ok d S := by
  obtain ⟨a, S1, e, rfl, rfl⟩ := h.ex
  exact e
/-- a store in which nothing that is made now is told -/
def Sane (S : Sto) : Prop := closedL S.length S = true
theorem fits_l {i j : Int} (h : i.natAbs < 2 ^ 64) : mulFits i j = true := by
  unfold mulFits
  rw [decide_eq_true h, Bool.true_or, Bool.or_true]
theorem fits_r {i j : Int} (h : j.natAbs < 2 ^ 64) : mulFits i j = true := by
  unfold mulFits
  rw [decide_eq_true h, Bool.or_true, Bool.or_true]
theorem closed_ints : ∀ {n : Nat} {ns : List Int}, closedL n (ns.map .int) = true
  | _, [] => rfl
  | n, i :: r => by unfold List.map closedL; rw [closed_ints]; rfl
theorem toPys_ints {S : Sto} : ∀ ns : List Int, toPys S (ns.map .int) = some (ns.map .int)
  | [] => rfl
  | i :: r => by unfold List.map toPys toPy; rw [toPys_ints r]
end DL
set_option Elab.async false
set_option linter.all false
set_option maxRecDepth 100000
set_option maxHeartbeats 4000000
set_option autoImplicit false
/-! Plain part: dicts in the store, what a def gives away. -/
namespace DL
open PySem L2
theorem closedL_set {n : Nat} : ∀ {S : Sto} {k : Nat} {d : D}, closedL n S = true → D.closed n d = true → closedL n (S.set k d) = true
  | [], _, _, h, _ => h
  | a :: r, 0, d, h, hd => by
    unfold closedL at h
    rw [Bool.and_eq_true] at h
    show closedL n (d :: r) = true
    unfold closedL
    rw [hd, h.2]; rfl
  | a :: r, k + 1, d, h, hd => by
    unfold closedL at h
    rw [Bool.and_eq_true] at h
    show closedL n (a :: r.set k d) = true
    unfold closedL
    rw [h.1, closedL_set h.2 hd]; rfl
theorem sane_set {S : Sto} {k : Nat} {d : D} (h : Sane S) (hd : D.closed S.length d = true) : Sane (S.set k d) := by
  unfold Sane
  rw [List.length_set]
  exact closedL_set h hd
theorem m_defR {n : Nat} {b : RS} {ds : List D} {S : Sto} {Q : D → Sto → Prop} (h : (b (ds.map some ++ List.replicate (n - ds.length) none) S).post NoS (fun z S1 => S1.length = S.length ∧ Sane S1 ∧ D.closed S.length z = true ∧ Q z S1) NoS NoS) : (mDef n b ds S).post Q :=
  m_def (h.mono (fun _ _ z => z.elim) (fun z S1 ⟨e1, e2, e3, e4⟩ => by
    have e : S1.take S.length = S1 := by rw [← e1, List.take_length]
    rw [e, e3, ← e1, show closedL S1.length S1 = true from e2]
    exact ⟨rfl, e4⟩) (fun _ _ z => z) (fun _ _ z => z))
/-- S' is S but at k -/
structure But (k : Nat) (S S' : Sto) : Prop where
  len : S'.length = S.length
  at_ : ∀ j, j ≠ k → S'[j]? = S[j]?
  sane : Sane S'
theorem But.trans {k : Nat} {S S1 S2 : Sto} (a : But k S S1) (b : But k S1 S2) : But k S S2 := ⟨b.len.trans a.len, fun j hj => (b.at_ j hj).trans (a.at_ j hj), b.sane⟩
end DL
set_option Elab.async false
set_option linter.all false
set_option maxRecDepth 100000
set_option maxHeartbeats 4000000
set_option autoImplicit false
/-! Plain part: texts by their signs. -/
namespace DL
open PySem L2
/-- the text of these signs -/
def mk (cs : List Nat) : Str := ⟨cs.toArray⟩
/-- signs that a text may have -/
def Fine (cs : List Nat) : Prop := ∀ c ∈ cs, c < 128
theorem Fine.ok {cs : List Nat} (h : Fine cs) : PyData.strOk (mk cs) = true := by
  unfold PyData.strOk mk
  rw [Array.all_eq_true']
  intro c hc
  have := h c (by simpa using hc)
  exact decide_eq_true (by omega)
theorem Fine.drop {cs : List Nat} (h : Fine cs) (n : Nat) : Fine (cs.drop n) := fun c hc => h c (List.mem_of_mem_drop hc)
theorem Fine.take {cs : List Nat} (h : Fine cs) (n : Nat) : Fine (cs.take n) := fun c hc => h c (List.mem_of_mem_take hc)
section
variable {δ : Sl} {S : Sto} {QD : D → Sto → Prop} {QO : Option Int → Sto → Prop} {a : RE} {l h : RO}
theorem p_onone (q : QO none S) : (oNone δ S).post QO := q
theorem p_osome (q : (a δ S).post fun x S1 => ∃ i, x = .int i ∧ QO (some i) S1) : (oSome a δ S).post QO := p_bind (q.mono fun x S1 ⟨i, e, q'⟩ => by subst e; exact q')
end
def sg (c : Nat) : Str := ⟨#[c]⟩
end DL
set_option Elab.async false
set_option linter.all false
set_option maxRecDepth 100000
set_option maxHeartbeats 4000000
set_option autoImplicit false
/-! Plain part: the wider operations. -/
namespace DL
open PySem L2
section
variable {S : Sto} {i j : Int} {x y : Str} {Q : D → Sto → Prop} {QL : List D → Sto → Prop} {QB : Bool → Sto → Prop} {δ : Sl} {N B C : Sl → Sto → Prop} {T : D → Sto → Prop}
theorem o_ltU (h : Q (.bl (decide (i < j))) S) : (Res.lift (gLtU S (.int i) (.int j)) S).post Q := h
theorem o_leU (h : Q (.bl (decide (i ≤ j))) S) : (Res.lift (gLeU S (.int i) (.int j)) S).post Q := h
theorem o_gtU (h : Q (.bl (decide (j < i))) S) : (Res.lift (gGtU S (.int i) (.int j)) S).post Q := h
theorem o_geU (h : Q (.bl (decide (j ≤ i))) S) : (Res.lift (gGeU S (.int i) (.int j)) S).post Q := h
theorem p_bif {c a b : RB} (h : (c δ S).post fun k S1 => (k = true → (a δ S1).post QB) ∧ (k = false → (b δ S1).post QB)) : (bIf c a b δ S).post QB := p_bind (h.mono fun k _ q => by
  cases k with
  | true => exact q.1 rfl
  | false => exact q.2 rfl)
theorem o_lenT {xs : List D} (q : Q (.int xs.length) S) : (Res.lift (gLen S [.tup xs]) S).post Q := q
theorem o_lenL {xs : List D} (q : Q (.int xs.length) S) : (Res.lift (gLen S [.lst xs]) S).post Q := q
theorem s_gtux {u : List D → Sl → Sto → Res Sl} {ds : List D} {QS : Sl → Sto → Prop} (h : (u ds δ S).post QS) : (gTup u (.tux ds) δ S).post QS := h
theorem atI_0 {a : D} {r : List D} : atI (a :: r) 0 = some a := by unfold atI ixN; simp
theorem atI_1 {a b : D} {r : List D} : atI (a :: b :: r) 1 = some b := by
  unfold atI ixN
  simp
  rw [if_pos (by omega)]
  rfl
theorem atI_2 {a b c : D} {r : List D} : atI (a :: b :: c :: r) 2 = some c := by
  unfold atI ixN
  simp
  rw [if_pos (by omega)]
  rfl
end
end DL
set_option Elab.async false
set_option linter.all false
set_option maxRecDepth 100000
set_option maxHeartbeats 4000000
set_option autoImplicit false
/-! Plain part: how long a repr is, and of which signs. -/
namespace DL
open PySem L2
/-! ### data of bounded size -/
end DL
set_option Elab.async false
set_option linter.all false
set_option maxRecDepth 100000
set_option maxHeartbeats 4000000
set_option autoImplicit false
/-! Typed things as data: their order, sorting. -/
namespace DL
open PySem L2
/-! ### order -/
/-! ### rows of pairs: dicts -/
section
variable {κ ν : Type} [DecidableEq κ]
def getT : List (κ × ν) → κ → Option ν
  | [], _ => none
  | (k, v) :: r, q => if k = q then some v else getT r q
end
/-! ### rows in order -/
end DL
set_option Elab.async false
set_option linter.all false
set_option maxRecDepth 100000
set_option maxHeartbeats 4000000
set_option autoImplicit false
/-! Typed dicts in the store. -/
namespace DL
open PySem L2
end DL
set_option Elab.async false
set_option linter.all false
set_option maxRecDepth 100000
set_option maxHeartbeats 4000000
set_option autoImplicit false
/-! Plain tools, for every law. -/
namespace DL
open PySem L2
/-- a def that drops what it made -/
theorem m_defJ {n : Nat} {b : RS} {ds : List D} {S : Sto} {d : D} (hS : Sane S) (hd : D.closed S.length d = true) (h : (b (ds.map some ++ List.replicate (n - ds.length) none) S).post NoS (fun z S1 => z = d ∧ S1.take S.length = S) NoS NoS) : mDef n b ds S = .ok d S :=
  same_of (m_def (h.mono (fun _ _ z => z.elim) (fun z S1 ⟨e1, e2⟩ => by
    rw [e1, hd, e2, show closedL S.length S = true from hS]
    exact ⟨rfl, rfl, rfl⟩) (fun _ _ z => z) (fun _ _ z => z)))
theorem s_putU {δ : Sl} {S : Sto} {d k v : RE} {N B C : Sl → Sto → Prop} {T : D → Sto → Prop} (h : (v δ S).post fun z S1 => (d δ S1).post fun x S2 => (k δ S2).post fun y S3 => ∃ n u u', x = .ptr n ∧ S3[n]? = some u ∧ putU u y z = some u' ∧ N δ (S3.set n u')) : (sPutU d k v δ S).post N T B C :=
  p_out (h.mono fun z S1 q => p_out (q.mono fun x S2 q => p_out (q.mono fun y S3 ⟨n, u, u', e1, e2, e3, q'⟩ => by
    subst e1
    dsimp only
    rw [e2]
    dsimp only
    rw [e3]
    exact q')))
theorem s_setL {δ : Sl} {S : Sto} {d k v : RE} {N B C : Sl → Sto → Prop} {T : D → Sto → Prop} (h : (v δ S).post fun z S1 => (d δ S1).post fun x S2 => (k δ S2).post fun y S3 => ∃ n i xs j, x = .ptr n ∧ y = .int i ∧ S3[n]? = some (.lst xs) ∧ ixN xs.length i = some j ∧ N δ (S3.set n (.lst (xs.set j z)))) : (sSetL d k v δ S).post N T B C :=
  p_out (h.mono fun z S1 q => p_out (q.mono fun x S2 q => p_out (q.mono fun y S3 ⟨n, i, xs, j, e1, e2, e3, e4, q'⟩ => by
    subst e1
    subst e2
    dsimp only
    rw [e3]
    dsimp only
    rw [e4]
    exact q')))
theorem deref_at {S : Sto} {k : Nat} {xs : List D} (h : S[k]? = some (.lst xs)) : deref S (.ptr k) = .lst xs := by
  unfold deref
  dsimp only
  rw [show S.getD k .non = .lst xs by rw [List.getD_eq_getElem?_getD, h]; rfl]
theorem p_get2 {a k x : RE} {δ : Sl} {S : Sto} {Q : D → Sto → Prop} (h : (a δ S).post fun d S1 => isDct S1 d = true ∧ (k δ S1).post fun q S2 => (x δ S2).post fun z S3 => ∃ o, lookU S3 d q = some o ∧ Q (o.getD z) S3) : (rGet2 a k x δ S).post Q :=
  p_bind (h.mono fun d S1 ⟨e, q⟩ => by
    rw [if_pos e]
    exact p_bind (q.mono fun y S2 q => p_bind (q.mono fun z S3 ⟨o, e2, q⟩ => p_lift (by rw [e2]; rfl) q)))
theorem p_sortIt {a : RE} {δ : Sl} {S : Sto} {Q : D → Sto → Prop} (h : (a δ S).post fun d S1 => ∃ xs, (itemsOf (deref S1 d)).bind (sortD S1) = some xs ∧ Q (.lst xs) S1) : (rSortItems a δ S).post Q :=
  p_bind (h.mono fun d S1 ⟨xs, e, q⟩ => p_lift (a := .lst xs) (by rw [e]; rfl) q)
end DL
set_option Elab.async false
set_option linter.all false
set_option maxRecDepth 100000
set_option maxHeartbeats 4000000
set_option autoImplicit false
/-! Products of boxes, kinds, fractions: typed. -/
namespace DL
open PySem L2
/-! ### fractions -/
/-! ### products of boxes, kinds -/
end DL
set_option Elab.async false
set_option linter.all false
set_option maxRecDepth 100000
set_option maxHeartbeats 4000000
set_option autoImplicit false
/-! Items of tuples. -/
namespace DL
open PySem L2
theorem o_ix0 {S : Sto} {a : D} {r : List D} {Q : D → Sto → Prop} (h : Q a S) : (Res.lift (gIx S (.tup (a :: r)) (.int 0)) S).post Q := o_ixT atI_0 h
theorem o_ix1 {S : Sto} {a b : D} {r : List D} {Q : D → Sto → Prop} (h : Q b S) : (Res.lift (gIx S (.tup (a :: b :: r)) (.int 1)) S).post Q := o_ixT atI_1 h
theorem o_ix2 {S : Sto} {a b c : D} {r : List D} {Q : D → Sto → Prop} (h : Q c S) : (Res.lift (gIx S (.tup (a :: b :: c :: r)) (.int 2)) S).post Q := o_ixT atI_2 h
theorem o_ix0L {S : Sto} {a : D} {r : List D} {Q : D → Sto → Prop} (h : Q a S) : (Res.lift (gIx S (.lst (a :: r)) (.int 0)) S).post Q := o_ixL atI_0 h
theorem o_ix1L {S : Sto} {a b : D} {r : List D} {Q : D → Sto → Prop} (h : Q b S) : (Res.lift (gIx S (.lst (a :: b :: r)) (.int 1)) S).post Q := o_ixL atI_1 h
theorem o_ix2L {S : Sto} {a b c : D} {r : List D} {Q : D → Sto → Prop} (h : Q c S) : (Res.lift (gIx S (.lst (a :: b :: c :: r)) (.int 2)) S).post Q := o_ixL atI_2 h
theorem s_gtupl {u : List D → Sl → Sto → Res Sl} {ds : List D} {δ : Sl} {S : Sto} {QS : Sl → Sto → Prop} (h : (u ds δ S).post QS) : (gTup u (.tup ds) δ S).post QS := s_gtup rfl h
end DL
set_option Elab.async false
set_option linter.all false
set_option maxRecDepth 100000
set_option maxHeartbeats 1000000
set_option autoImplicit false
namespace DL
open PySem L2
local macro_rules | `(tactic| walk_at "1") => `(tactic| with_reducible first
  | refine e_seq ?_ | refine e_asgP ?_ | refine e_if ?_ | refine e_next ?_ | refine e_exprP ?_ | refine s_seq ?_ | refine s_asg ?_ | refine s_ret ?_ | refine s_if ?_ | refine s_expr ?_ | refine s_next ?_ | refine s_brk ?_ | refine s_cont ?_ | refine s_for ?_ | refine s_while ?_
  | refine p_c ?_ | refine p_bin ?_ | refine p_as ?_ | refine p_cons ?_ | refine p_nil ?_ | refine p_un ?_ | refine p_call ?_ | refine p_if ?_ | refine p_own ?_
  | refine p_keep ?_ | refine p_tru ?_ | refine p_and ?_ | refine p_or ?_ | refine p_not ?_ | refine p_val ?_ | refine p_rand ?_ | refine p_ror ?_ | refine p_rnot ?_ | refine p_chain ?_ | refine p_bif ?_
  | refine o_add ?_ | refine o_sub ?_ | refine o_ltU ?_ | refine o_leU ?_ | refine o_gtU ?_ | refine o_geU ?_ | refine o_neg ?_ | refine o_eqI ?_ | refine o_neI ?_ | refine o_abs ?_ | refine o_tru ?_ | refine p_true ?_ | refine p_false ?_
  | refine o_lenT ?_ | refine o_lenL ?_ | refine o_ix0 ?_ | refine o_ix1 ?_ | refine o_ix2 ?_ | refine o_ix0L ?_ | refine o_ix1L ?_ | refine o_ix2L ?_
  | refine s_par ?_ | refine p_yes ?_ | refine p_seq ?_ | refine s_gnil ?_ | refine s_gcons ?_ | refine s_gtux ?_ | refine s_gtupl ?_ | refine p_onone ?_ | refine p_osome ?_ | refine p_get2 ?_ | refine s_putU ?_ | refine p_sortIt ?_)
local macro_rules | `(tactic| walk_at "2") => `(tactic| first
  | walk_at "1"
  | (with_reducible refine p_var2 ?_)
  | ((with_reducible refine s_name ?_ ?_); (· exact Nat.le_of_ble_eq_true rfl); dsimp only [List.set_cons_zero, List.set_cons_succ])
  | (with_reducible refine p_tup ?_) | (with_reducible refine p_lst ?_) | ((with_reducible refine ⟨?_, ?_⟩); (· exact Nat.le_of_ble_eq_true rfl))
  | ((with_reducible refine p_ex2 (x := ?_) (y := ?_) ?_ ?_); rotate_left; rotate_left; (· rfl); refine ⟨?_, ?_, ?_⟩; (· exact Nat.le_of_ble_eq_true rfl); (· exact Nat.le_of_ble_eq_true rfl); dsimp only [List.set_cons_zero, List.set_cons_succ])
  | ((with_reducible refine p_isT ?_ ?_); (· rfl)) | ((with_reducible refine p_isF ?_ ?_); (· rfl))
  | ((with_reducible refine p_ex (x := ?_) ?_ ?_); rotate_left; (· rfl)))
local macro_rules | `(tactic| walk_at "3") => `(tactic| repeat walk_at "2")
/-! ### the draws -/
theorem fmod_lt (a : Int) {m : Int} (h : 0 < m) : 0 ≤ a.fmod m ∧ a.fmod m < m := by
  rw [Int.fmod_eq_emod_of_nonneg _ (by omega)]
  exact ⟨Int.emod_nonneg _ (by omega), Int.emod_lt_of_pos _ h⟩
theorem fdiv_nn {a m : Int} (h0 : 0 ≤ a) (h : 0 < m) : 0 ≤ a.fdiv m := by
  rw [Int.fdiv_eq_ediv_of_nonneg _ (by omega)]
  exact Int.ediv_nonneg h0 (by omega)
abbrev tpD (a b : Int) : D := .lst [.int a, .int b]
theorem atI_nat {A : Type} {xs : List A} {i : Int} {x : A} (h0 : 0 ≤ i) (e : xs[i.toNat]? = some x) : atI xs i = some x := by
  have h := (List.getElem?_eq_some_iff.mp e).1
  have hi : i < (xs.length : Int) := by omega
  unfold atI ixN
  rw [if_pos h0, if_pos hi]
  exact e
theorem ix_int {S : Sto} {ns : List Int} {i : Int} {Q : D → Sto → Prop} (h0 : 0 ≤ i) (h1 : i < ns.length) (h : ∀ x : Int, Q (.int x) S) : (Res.lift (gIx S (.lst (ns.map .int)) (.int i)) S).post Q := by
  have hl : i.toNat < ns.length := by omega
  exact o_ixL (atI_nat (x := D.int ns[i.toNat]) h0 (by rw [List.getElem?_map, List.getElem?_eq_getElem hl]; rfl)) (h _)
theorem ix_ptr {S : Sto} {k : Nat} {i : Int} {xs : List D} {d : D} {Q : D → Sto → Prop} (hk : S[k]? = some (.lst xs)) (e : atI xs i = some d) (h : Q d S) : (Res.lift (gIx S (.ptr k) (.int i)) S).post Q := p_lift (by unfold gIx; rw [deref_at hk]; exact e) h
theorem ne_nil {S : Sto} {ns : List Int} {Q : D → Sto → Prop} (h : Q (.bl (!ns.isEmpty)) S) : (Res.lift (gNe S (.lst (ns.map .int)) (.lst [])) S).post Q := by
  refine p_lift ?_ h
  unfold gNe eqD
  have e1 : toPy S (deref S (.lst (ns.map .int))) = some (.list (ns.map PyData.int)) := by
    show (toPys S (ns.map .int)).map PyData.list = _
    rw [toPys_ints]; rfl
  have e2 : toPy S (deref S (.lst [])) = some (.list []) := rfl
  rw [e1, e2]
  dsimp only
  have s1 : SeqAt.shaped (.list (ns.map PyData.int)) = true := PySem.W.ke_shaped_ints ns
  have s2 : SeqAt.shaped (.list []) = true := by decide
  rw [s1, s2]
  cases ns with
  | nil => rfl
  | cons n r => rfl
theorem set_eq {S : Sto} {j : Nat} {d : D} (e : S[j]? = some d) : S = S.set j d := by
  have hj := (List.getElem?_eq_some_iff.mp e)
  obtain ⟨h1, h2⟩ := hj
  rw [← h2, List.set_getElem_self]
theorem set_at {S : Sto} {j : Nat} {d d' : D} (e : S[j]? = some d) : (S.set j d')[j]? = some d' := List.getElem?_set_self (List.getElem?_eq_some_iff.mp e).1
def dgR : RS := sSeq (sAsg (rBin gMod (rBin gIx (rVar 1) (rC (.int 1))) (rVar 2)) (gName 5))
    (sSeq (sSetL (rVar 1) (rC (.int 1)) (rBin gDiv (rBin gIx (rVar 1) (rC (.int 1))) (rVar 2)))
    (sRet (rVar 5)))
def mxR : RS := sSeq (sAsg (rBin gAdd (rBin gMul (rBin gMod (rVar 3) (rC (.int 1000003))) (rC (.int 48271))) (rBin gMod (rBin gDiv (rVar 3) (rC (.int 1000003))) (rC (.int 1000003)))) (gName 4))
    (sSeq (sAsg (rBin gMod (rBin gAdd (rBin gAdd (rVar 4) (rBin gMul (rBin gMul (rC (.int 7919)) (rBin gIx (rVar 1) (rC (.int 0)))) (rBin gIx (rVar 1) (rC (.int 0))))) (rBin gMul (rC (.int 13)) (rBin gIx (rVar 1) (rC (.int 0))))) (rC (.int 2147483647))) (gName 4))
    (sRet (rBin gMod (rBin gDiv (rBin gMod (rBin gMul (rBin gMod (rBin gMul (rVar 4) (rVar 4)) (rC (.int 1000000007))) (rC (.int 16807))) (rC (.int 2147483629))) (rC (.int 11))) (rVar 2))))
def drR : RS := sSeq (sSetL (rVar 1) (rC (.int 0)) (rBin gAdd (rBin gIx (rVar 1) (rC (.int 0))) (rC (.int 1))))
    (sSeq (sIf (bOr (bVal (rBin gLtU (rVar 3) (rBin gPow (rC (.int 10)) (rC (.int 18))))) (bVal (rBin gGtU (rBin gIx (rVar 1) (rC (.int 0))) (rAs gLen (rCons (rVar 0) rNil))))) mxR sNext)
    (sSetL (rVar 1) (rC (.int 1)) (rVar 3)))
theorem law_draw_eq : b__law_draw = (sSeq (sIf (bVal (rBin gEq (rBin gIx (rVar 1) (rC (.int 1))) (rC (.int 0)))) (sSeq (sAsg (rIf (bVal (rBin gNe (rVar 0) (rKeep (rLst rNil)))) (rBin gIx (rVar 0) (rBin gMod (rBin gIx (rVar 1) (rC (.int 0))) (rAs gLen (rCons (rVar 0) rNil)))) (rC (.int 0))) (gName 3)) drR) sNext) dgR) := rfl
/-- what a draw tells, and leaves -/
def DrW (S : Sto) (j : Nat) (a k : Int) (z : D) (S1 : Sto) : Prop := S1.length = S.length ∧ Sane S1 ∧ D.closed S.length z = true ∧ ∃ i a' b' : Int, z = .int i ∧ 0 ≤ i ∧ i < k ∧ 0 ≤ a' ∧ a' ≤ a + 1 ∧ 0 ≤ b' ∧ S1 = S.set j (tpD a' b')
theorem dw_fin {S : Sto} {j : Nat} {a k : Int} (hS : Sane S) {a' b' i : Int} (h1 : 0 ≤ a') (h2 : a' ≤ a + 1) (h3 : 0 ≤ b') (h4 : 0 ≤ i) (h5 : i < k) : DrW S j a k (.int i) (S.set j (tpD a' b')) :=
  ⟨List.length_set, sane_set hS rfl, rfl, i, a', b', rfl, h4, h5, h1, h2, h3, rfl⟩
theorem dg_ok (ns : List Int) {S : Sto} {j : Nat} {a b k : Int} (hS : Sane S) (e : S[j]? = some (tpD a b)) (hk : 0 < k) (hk2 : k < 1000) (x3 x4 : Option D) (a1 b1 : Int) (g0 : 0 ≤ a1) (g1 : a1 ≤ a + 1) (g2 : 0 ≤ b1) :
    (dgR [some (.lst (ns.map .int)), some (.ptr j), some (.int k), x3, x4, none] (S.set j (tpD a1 b1))).post NoS (DrW S j a k) NoS NoS := by
  have e1 : (S.set j (tpD a1 b1))[j]? = some (tpD a1 b1) := set_at e
  unfold dgR
  walk_at "3"
  refine ix_ptr e1 (d := .int b1) rfl ?_
  walk_at "3"
  refine o_mod (by omega) ?_
  walk_at "3"
  refine s_setL ?_
  walk_at "3"
  refine ix_ptr e1 (d := .int b1) rfl ?_
  walk_at "3"
  refine o_div ⟨by omega, ?_⟩ ?_
  · have : k.natAbs < 2 ^ 1000 := Nat.lt_of_lt_of_le (m := 1000) (by omega) (by decide)
    have := Nat.log2_lt (n := k.natAbs) (k := 1000) (by omega) |>.mpr this
    omega
  walk_at "3"
  refine ⟨j, 1, [.int a1, .int b1], 1, rfl, rfl, e1, rfl, ?_⟩
  walk_at "3"
  rw [List.set_set]
  exact dw_fin hS g0 g1 (fdiv_nn g2 hk) (fmod_lt _ hk).1 (fmod_lt _ hk).2
theorem mx_ok (ns : List Int) {S : Sto} {j : Nat} {a b k : Int} (hS : Sane S) (e : S[j]? = some (tpD a b)) (ha : 0 ≤ a) (ha2 : a < 1000000) (hb : 0 ≤ b) (hk : 0 < k) (hk2 : k < 1000) (cell : Int) {N : Sl → Sto → Prop} :
    (mxR [some (.lst (ns.map .int)), some (.ptr j), some (.int k), some (.int cell), none, none] (S.set j (tpD (a + 1) b))).post N (DrW S j a k) NoS NoS := by
  have e1 : (S.set j (tpD (a + 1) b))[j]? = some (tpD (a + 1) b) := set_at e
  unfold mxR
  walk_at "3"
  refine o_mod (by decide) ?_
  obtain ⟨q1, q2⟩ := fmod_lt cell (m := 1000003) (by decide)
  walk_at "3"
  refine o_mul (fits_l (by omega)) ?_
  walk_at "3"
  refine o_div ⟨by decide, by decide⟩ ?_
  walk_at "3"
  refine o_mod (by decide) ?_
  obtain ⟨q3, q4⟩ := fmod_lt (cell.fdiv 1000003) (m := 1000003) (by decide)
  generalize hn1 : (cell.fmod 1000003 * 48271 + (cell.fdiv 1000003).fmod 1000003 : Int) = n1
  have b1 : 0 ≤ n1 ∧ n1 < 100000000000 := by omega
  clear hn1
  walk_at "3"
  refine ix_ptr e1 (d := .int (a + 1)) rfl ?_
  refine o_mul (fits_l (by decide)) ?_
  walk_at "3"
  refine ix_ptr e1 (d := .int (a + 1)) rfl ?_
  refine o_mul (fits_r (by omega)) ?_
  walk_at "3"
  refine ix_ptr e1 (d := .int (a + 1)) rfl ?_
  refine o_mul (fits_l (by decide)) ?_
  walk_at "3"
  refine o_mod (by decide) ?_
  generalize hn2 : (Int.fmod _ 2147483647 : Int) = n2
  have b2 : 0 ≤ n2 ∧ n2 < 2147483647 := by rw [← hn2]; exact fmod_lt _ (by decide)
  clear hn2
  walk_at "3"
  refine o_mul (fits_l (by omega)) ?_
  walk_at "3"
  refine o_mod (by decide) ?_
  generalize hn3 : (Int.fmod _ 1000000007 : Int) = n3
  have b3 : 0 ≤ n3 ∧ n3 < 1000000007 := by rw [← hn3]; exact fmod_lt _ (by decide)
  clear hn3
  walk_at "3"
  refine o_mul (fits_l (by omega)) ?_
  walk_at "3"
  refine o_mod (by decide) ?_
  walk_at "3"
  refine o_div ⟨by decide, by decide⟩ ?_
  walk_at "3"
  refine o_mod (by omega) ?_
  exact dw_fin hS (by omega) (by omega) hb (fmod_lt _ hk).1 (fmod_lt _ hk).2
theorem dr_ok (ns : List Int) {S : Sto} {j : Nat} {a b k : Int} (hS : Sane S) (e : S[j]? = some (tpD a b)) (ha : 0 ≤ a) (ha2 : a < 1000000) (hb : 0 ≤ b) (hk : 0 < k) (hk2 : k < 1000) (cell : Int) :
    (drR [some (.lst (ns.map .int)), some (.ptr j), some (.int k), some (.int cell), none, none] S).post (fun δ1 S1 => ∃ x3 x4 a1 b1, 0 ≤ a1 ∧ a1 ≤ a + 1 ∧ 0 ≤ b1 ∧ δ1 = [some (.lst (ns.map .int)), some (.ptr j), some (.int k), x3, x4, none] ∧ S1 = S.set j (tpD a1 b1)) (DrW S j a k) NoS NoS := by
  have e1 : (S.set j (tpD (a + 1) b))[j]? = some (tpD (a + 1) b) := set_at e
  unfold drR
  walk_at "3"
  refine s_setL ?_
  walk_at "3"
  refine ix_ptr e (d := .int a) rfl ?_
  walk_at "3"
  refine ⟨j, 0, [.int a, .int b], 0, rfl, rfl, e, rfl, ?_⟩
  show (sSeq _ _ _ (S.set j (tpD (a + 1) b))).post _ _ _ _
  have tail : 10 ^ 18 ≤ cell → ((sSetL (rVar 1) (rC (.int 1)) (rVar 3)) [some (.lst (ns.map .int)), some (.ptr j), some (.int k), some (.int cell), none, none] (S.set j (tpD (a + 1) b))).post (fun δ1 S1 => ∃ x3 x4 a1 b1, 0 ≤ a1 ∧ a1 ≤ a + 1 ∧ 0 ≤ b1 ∧ δ1 = [some (.lst (ns.map .int)), some (.ptr j), some (.int k), x3, x4, none] ∧ S1 = S.set j (tpD a1 b1)) (DrW S j a k) NoS NoS := fun hc => by
    refine s_setL ?_
    walk_at "3"
    refine ⟨j, 1, [.int (a + 1), .int b], 1, rfl, rfl, e1, rfl, ?_⟩
    refine ⟨_, _, a + 1, cell, by omega, by omega, by omega, rfl, ?_⟩
    rw [List.set_set]
    rfl
  walk_at "3"
  refine o_pow ⟨by decide, by decide, by decide⟩ ?_
  walk_at "3"
  refine ⟨fun _ => ⟨fun _ => mx_ok ns hS e ha ha2 hb hk hk2 cell, fun z => nomatch z⟩, fun h1 => ?_⟩
  have hc : (10 ^ 18 : Int) ≤ cell := by
    have h1 := of_decide_eq_false h1
    have : ((10 : Int) ^ Int.toNat 18) = 10 ^ 18 := rfl
    omega
  walk_at "3"
  refine ix_ptr e1 (d := .int (a + 1)) rfl ?_
  walk_at "3"
  refine ⟨fun _ => mx_ok ns hS e ha ha2 hb hk hk2 cell, fun _ => ?_⟩
  refine s_next ?_
  exact tail hc
theorem draw_spec (ns : List Int) (S : Sto) (j : Nat) (a b k : Int) (hS : Sane S) (e : S[j]? = some (tpD a b)) (ha : 0 ≤ a) (ha2 : a < 1000000) (hb : 0 ≤ b) (hk : 0 < k) (hk2 : k < 1000) :
    (m__law_draw [.lst (ns.map .int), .ptr j, .int k] S).post (DrW S j a k) := by
  refine m_defR (Out.post.mono (N1 := NoS) (T1 := DrW S j a k) (B1 := NoS) (C1 := NoS) ?_ (fun _ _ z => z) (fun z S1 h => ⟨h.1, h.2.1, h.2.2.1, h⟩) (fun _ _ z => z) (fun _ _ z => z))
  show (b__law_draw [some (.lst (ns.map .int)), some (.ptr j), some (.int k), none, none, none] S).post _ _ _ _
  rw [law_draw_eq]
  walk_at "3"
  refine ix_ptr e (d := .int b) rfl ?_
  walk_at "3"
  refine ⟨fun hb0 => ?_, fun hb0 => ?_⟩
  rotate_left
  · refine s_next ?_
    have h := dg_ok ns hS e hk hk2 none none a b ha (by omega) hb
    rw [← set_eq e] at h
    exact h
  have go : ∀ cell : Int, (drR [some (.lst (ns.map .int)), some (.ptr j), some (.int k), some (.int cell), none, none] S).post (fun δ1 S1 => (dgR δ1 S1).post NoS (DrW S j a k) NoS NoS) (DrW S j a k) NoS NoS := fun cell =>
    (dr_ok ns hS e ha ha2 hb hk hk2 cell).mono (fun δ1 S1 ⟨x3, x4, a1, b1, g0, g1, g2, ed, eS⟩ => by rw [ed, eS]; exact dg_ok ns hS e hk hk2 x3 x4 a1 b1 g0 g1 g2) (fun _ _ z => z) (fun _ _ z => z) (fun _ _ z => z)
  walk_at "3"
  refine ne_nil ?_
  refine ⟨_, rfl, fun h => ?_, fun _ => ?_⟩
  · walk_at "3"
    refine ix_ptr e (d := .int a) rfl ?_
    walk_at "3"
    have hl : ns.length ≠ 0 := by
      intro z
      have : ns = [] := List.length_eq_zero_iff.mp z
      subst this
      simp at h
    refine o_mod (by rw [List.length_map]; omega) ?_
    rw [List.length_map]
    refine ix_int (fmod_lt _ (by omega)).1 (fmod_lt _ (by omega)).2 fun x => ?_
    walk_at "3"
    exact go x
  · walk_at "3"
    exact go 0
end DL
set_option Elab.async false
set_option linter.all false
set_option maxRecDepth 1000000
set_option maxHeartbeats 0
set_option autoImplicit false
/-! k79: the things that are none, told by the kernel. -/
namespace DL
open PySem L2
def Sx (P : Addr) (a b : Int) : Sto := [.lam P 0 "law.<locals>.<lambda>" [] [], .lst [.int a, .int b]]
def seqs : List RS → RS → RS
  | [], z => z
  | s :: r, z => sSeq s (seqs r z)
theorem seqs_run : ∀ (l : List RS) (z : RS) (δ : Sl) (S : Sto), seqs l z δ S = match seqs l sNext δ S with
    | .nx δ1 S1 => z δ1 S1
    | o => o
  | [], z, δ, S => rfl
  | s :: r, z, δ, S => by
    show (match s δ S with | .nx δ1 S1 => seqs r z δ1 S1 | o => o) = match (match s δ S with | .nx δ1 S1 => seqs r sNext δ1 S1 | o => o) with | .nx δ1 S1 => z δ1 S1 | o => o
    cases s δ S with
    | nx δ1 S1 => exact seqs_run r z δ1 S1
    | _ => rfl
def noneZ : RS := (sRet (rBin gIx (rVar 4) (rCall m__law_draw (rCons (rVar 0) (rCons (rVar 1) (rCons (rAs gLen (rCons (rVar 4) rNil)) rNil))))))
def noneL : List RS := 
    (sAsg (rTup (rCons (rC (.str "set")) (rCons (rC (.str "a")) (rCons (rTup (rCons (rTup (rCons (rTup rNil) (rCons (rC (.int 1)) rNil))) rNil)) rNil)))) (gName 2)) ::
    (sAsg (rTup (rCons (rTup (rCons (rTup (rCons (rTup rNil) (rCons (rC (.int 0)) (rCons (rC (.int 1)) rNil)))) (rCons (rTup (rCons (rC (.int 1)) (rCons (rC (.int 1)) rNil))) rNil))) rNil)) (gName 3)) ::
    (sAsg (rOwn (rLst (rCons (rC .non) (rCons (rC (.int 5)) (rCons (rC (.str "set")) (rCons (rKeep (rLst (rCons (rVar 2) rNil))) (rCons (rOwn (rC (.dct []))) (rCons (rC (.bl true)) (rCons (rBin gRepX (rTup (rCons (rVar 2) rNil)) (rC (.int 13))) (rCons (rTup (rCons (rTup rNil) rNil)) (rCons (rTup (rCons (rTup (rCons (rC (.str "set")) rNil)) rNil)) (rCons (rTup (rCons (rTup (rCons (rC (.str "set")) (rCons (rC (.str "a")) rNil))) rNil)) rNil)))))))))))) (gName 4)) ::
    (sExpr (rMeth "list" mAppend (rVar 4) (rCons (rTup (rCons (rBin gAdd (rVar 2) (rTup (rCons (rC (.int 1)) rNil))) rNil)) rNil))) ::
    (sAsg (rOwn (rBin gCat (rVar 4) (rKeep (rLst (rCons (rTup (rCons (rTup (rCons (rC (.str "set")) (rCons (rC (.str "A")) (rCons (rTup rNil) rNil)))) rNil)) (rCons (rTup (rCons (rTup (rCons (rC (.str "set")) (rCons (rC (.str "abcdefghi")) (rCons (rTup rNil) rNil)))) rNil)) (rCons (rTup (rCons (rTup (rCons (rC (.str "set")) (rCons (rC (.str "a")) (rCons (rC (.int 5)) rNil)))) rNil)) (rCons (rTup (rCons (rTup (rCons (rC (.str "set")) (rCons (rC (.int 5)) (rCons (rTup rNil) rNil)))) rNil)) rNil)))))))) (gName 4)) ::
    (sAsg (rOwn (rBin gCat (rVar 4) (rKeep (rLst (rCons (rTup (rCons (rTup (rCons (rC (.str "set")) (rCons (rC (.str "a")) (rCons (rTup (rCons (rTup (rCons (rTup rNil) (rCons (rC (.int 0)) rNil))) rNil)) rNil)))) rNil)) (rCons (rTup (rCons (rTup (rCons (rC (.str "set")) (rCons (rC (.str "a")) (rCons (rTup (rCons (rTup (rCons (rTup rNil) (rCons (rC (.bl true)) rNil))) rNil)) rNil)))) rNil)) (rCons (rTup (rCons (rTup (rCons (rC (.str "set")) (rCons (rC (.str "a")) (rCons (rKeep (rLst (rCons (rTup (rCons (rTup rNil) (rCons (rC (.int 1)) rNil))) rNil))) rNil)))) rNil)) rNil))))))) (gName 4)) ::
    (sAsg (rOwn (rBin gCat (rVar 4) (rKeep (rLst (rCons (rTup (rCons (rTup (rCons (rC (.str "set")) (rCons (rC (.str "a")) (rCons (rTup (rCons (rTup (rCons (rTup (rCons (rTup (rCons (rC (.str "b")) (rCons (rC (.int 0)) rNil))) rNil)) (rCons (rC (.int 1)) rNil))) rNil)) rNil)))) rNil)) (rCons (rTup (rCons (rKeep (rLst (rCons (rC (.str "set")) (rCons (rC (.str "a")) (rCons (rTup rNil) rNil))))) rNil)) (rCons (rTup (rCons (rTup (rCons (rC (.str "sets")) (rCons (rC (.str "a")) (rCons (rTup rNil) rNil)))) rNil)) rNil))))))) (gName 4)) ::
    (sExpr (rMeth "list" mAppend (rVar 4) (rCons (rTup (rCons (rC .non) rNil)) rNil))) ::
    (sAsg (rOwn (rBin gCat (rVar 4) (rKeep (rLst (rCons (rTup (rCons (rTup (rCons (rC (.str "both")) (rCons (rTup rNil) rNil))) rNil)) (rCons (rTup (rCons (rTup (rCons (rC (.str "both")) (rCons (rTup (rCons (rTup (rCons (rC (.str "a")) (rCons (rTup rNil) rNil))) (rCons (rTup (rCons (rC (.str "a")) (rCons (rTup rNil) rNil))) rNil))) rNil))) rNil)) rNil)))))) (gName 4)) ::
    (sExpr (rMeth "list" mAppend (rVar 4) (rCons (rTup (rCons (rTup (rCons (rC (.str "both")) (rCons (rTup (rCons (rTup (rCons (rC (.str "b")) (rCons (rTup rNil) rNil))) (rCons (rTup (rCons (rC (.str "a")) (rCons (rTup rNil) rNil))) rNil))) rNil))) rNil)) rNil))) ::
    (sAsg (rOwn (rBin gCat (rVar 4) (rKeep (rLst (rCons (rTup (rCons (rTup (rCons (rC (.str "both")) (rCons (rTup (rCons (rTup (rCons (rC (.str "a")) rNil)) rNil)) rNil))) rNil)) (rCons (rTup (rCons (rTup (rCons (rC (.str "both")) (rCons (rAs gTuple (rCons (rKeep (rLc (rRange (rCons (rC (.int 7)) rNil)) (gName 8) [8] bYes (rTup (rCons (rBin gIx (rC (.str "abcdefg")) (rVar 8)) (rCons (rTup rNil) rNil))))) rNil)) rNil))) rNil)) rNil)))))) (gName 4)) ::
    (sAsg (rOwn (rBin gCat (rVar 4) (rKeep (rLst (rCons (rTup (rCons (rTup (rCons (rC (.str "both")) (rCons (rTup (rCons (rTup (rCons (rC (.str "a")) (rCons (rVar 3) rNil))) rNil)) rNil))) rNil)) (rCons (rTup (rCons (rTup (rCons (rC (.str "loop")) (rCons (rTup rNil) (rCons (rTup rNil) rNil)))) rNil)) (rCons (rTup (rCons (rTup (rCons (rC (.str "loop")) (rCons (rTup (rCons (rTup rNil) (rCons (rC (.int 1)) rNil))) (rCons (rTup (rCons (rVar 2) rNil)) rNil)))) rNil)) rNil))))))) (gName 4)) ::
    (sAsg (rOwn (rBin gCat (rVar 4) (rKeep (rLst (rCons (rTup (rCons (rTup (rCons (rC (.str "loop")) (rCons (rTup rNil) rNil))) rNil)) (rCons (rTup (rCons (rTup (rCons (rC (.str "loop")) (rCons (rTup rNil) (rCons (rVar 2) rNil)))) rNil)) (rCons (rTup (rCons (rCall m__law_loops (rCons (rC (.int 4)) (rCons (rVar 2) rNil))) rNil)) rNil))))))) (gName 4)) ::
    (sExpr (rMeth "list" mAppend (rVar 4) (rCons (rTup (rCons (rTup (rCons (rC (.str "loop")) (rCons (rTup rNil) (rCons (rTup (rCons (rVar 2) rNil)) (rCons (rVar 2) rNil))))) rNil)) rNil))) ::
    (sAsg (rOwn (rBin gCat (rVar 4) (rKeep (rLst (rCons (rTup (rCons (rTup (rCons (rC (.str "loop")) (rCons (rTup rNil) (rCons (rTup (rCons (rC (.int 5)) rNil)) rNil)))) rNil)) (rCons (rTup (rCons (rTup (rCons (rC (.str "jump")) (rCons (rTup rNil) (rCons (rTup (rCons (rTup (rCons (rC (.str "a")) (rCons (rVar 3) rNil))) rNil)) rNil)))) rNil)) (rCons (rTup (rCons (rTup (rCons (rC (.str "jump")) (rCons (rTup rNil) (rCons (rTup rNil) (rCons (rTup (rCons (rVar 2) rNil)) rNil))))) rNil)) rNil))))))) (gName 4)) ::
    (sExpr (rMeth "list" mAppend (rVar 4) (rCons (rTup (rCons (rTup (rCons (rC (.str "jump")) (rCons (rTup rNil) (rCons (rTup (rCons (rTup (rCons (rC (.str "a")) (rCons (rVar 3) rNil))) rNil)) (rCons (rTup rNil) rNil))))) rNil)) rNil))) ::
    (sExpr (rMeth "list" mAppend (rVar 4) (rCons (rTup (rCons (rTup (rCons (rC (.str "jump")) (rCons (rTup rNil) (rCons (rTup (rCons (rTup (rCons (rC (.str "a")) (rCons (rTup rNil) rNil))) (rCons (rTup (rCons (rC (.str "a")) (rCons (rTup rNil) rNil))) rNil))) (rCons (rTup (rCons (rVar 2) rNil)) rNil))))) rNil)) rNil))) ::
    (sExpr (rMeth "list" mAppend (rVar 4) (rCons (rTup (rCons (rTup (rCons (rC (.str "jump")) (rCons (rC (.int 5)) (rCons (rTup (rCons (rTup (rCons (rC (.str "a")) (rCons (rVar 3) rNil))) rNil)) (rCons (rTup (rCons (rVar 2) rNil)) rNil))))) rNil)) rNil))) ::
    (sAsg (rOwn (rBin gCat (rVar 4) (rKeep (rLst (rCons (rTup (rCons (rTup (rCons (rC (.str "jump")) (rCons (rTup rNil) (rCons (rTup (rCons (rTup (rCons (rC (.str "a")) (rCons (rTup (rCons (rTup (rCons (rTup (rCons (rTup rNil) (rCons (rC (.int 0)) (rCons (rC (.int 1)) rNil)))) (rCons (rTup (rCons (rC (.int 2)) (rCons (rC (.int 2)) rNil))) rNil))) rNil)) rNil))) rNil)) (rCons (rTup (rCons (rVar 2) rNil)) rNil))))) rNil)) (rCons (rTup (rCons (rTup (rCons (rOwn (rC (.dct []))) (rCons (rC (.str "a")) (rCons (rTup rNil) rNil)))) rNil)) rNil)))))) (gName 4)) ::
    (sExpr (rMeth "list" mAppend (rVar 4) (rCons (rTup (rCons (rTup (rCons (rC (.int 1)) (rCons (rC (.str "a")) (rCons (rTup rNil) rNil)))) rNil)) rNil))) ::
    (sAsg (rOwn (rBin gCat (rVar 4) (rKeep (rLst (rCons (rTup (rCons (rTup (rCons (rC (.str "jump")) (rCons (rTup rNil) (rCons (rTup (rCons (rTup (rCons (rC (.str "a")) (rCons (rVar 3) rNil))) rNil)) (rCons (rTup (rCons (rCall m__law_loops (rCons (rC (.int 3)) (rCons (rVar 2) rNil))) rNil)) rNil))))) rNil)) (rCons (rTup (rCons (rTup (rCons (rC (.str "loop")) (rCons (rTup rNil) (rCons (rBin gRepX (rTup (rCons (rVar 2) rNil)) (rC (.int 13))) rNil)))) rNil)) rNil)))))) (gName 4)) ::
    (sExpr (rMeth "list" mAppend (rVar 4) (rCons (rBin gRepX (rTup (rCons (rTup (rCons (rC (.str "loop")) (rCons (rTup rNil) (rCons (rBin gRepX (rTup (rCons (rVar 2) rNil)) (rC (.int 12))) rNil)))) rNil)) (rC (.int 5))) rNil))) ::
    (sAsg (rTup (rCons (rC (.str "both")) (rCons (rTup (rCons (rTup (rCons (rC (.str "a")) (rCons (rTup rNil) rNil))) rNil)) rNil))) (gName 5)) ::
    (sAsg (rOwn (rBin gCat (rVar 4) (rKeep (rLst (rCons (rBin gRepX (rTup (rCons (rTup (rCons (rC (.str "loop")) (rCons (rTup rNil) (rCons (rBin gRepX (rTup (rCons (rVar 5) rNil)) (rC (.int 12))) rNil)))) rNil)) (rC (.int 5))) (rCons (rBin gAdd (rBin gAdd (rBin gRepX (rTup (rCons (rTup (rCons (rC (.str "loop")) (rCons (rTup rNil) (rCons (rBin gRepX (rTup (rCons (rVar 5) rNil)) (rC (.int 12))) rNil)))) rNil)) (rC (.int 4))) (rBin gRepX (rTup (rCons (rVar 2) rNil)) (rC (.int 4)))) (rBin gRepX (rTup (rCons (rVar 5) rNil)) (rC (.int 5)))) rNil)))))) (gName 4)) ::
    (sAsg (rTup (rCons (rC (.str "jump")) (rCons (rTup rNil) (rCons (rTup (rCons (rTup (rCons (rC (.str "a")) (rCons (rVar 3) rNil))) rNil)) (rCons (rTup (rCons (rCall m__law_loops (rCons (rC (.int 1)) (rCons (rVar 2) rNil))) rNil)) rNil))))) (gName 6)) ::
    (sAsg (rOwn (rBin gCat (rVar 4) (rKeep (rLst (rCons (rTup (rCons (rCall m__law_loops (rCons (rC (.int 2)) (rCons (rVar 6) rNil))) rNil)) (rCons (rTup (rCons (rCall m__law_loops (rCons (rC (.int 3)) (rCons (rTup (rCons (rC (.str "jump")) (rCons (rTup rNil) (rCons (rTup (rCons (rTup (rCons (rC (.str "a")) (rCons (rVar 3) rNil))) rNil)) (rCons (rTup (rCons (rVar 2) rNil)) rNil))))) rNil))) rNil)) rNil)))))) (gName 4)) ::
    (sExpr (rMeth "list" mAppend (rVar 4) (rCons (rBin gRepX (rTup (rCons (rTup (rCons (rC (.str "jump")) (rCons (rTup rNil) (rCons (rTup (rCons (rTup (rCons (rC (.str "a")) (rCons (rVar 3) rNil))) rNil)) (rCons (rBin gRepX (rTup (rCons (rVar 2) rNil)) (rC (.int 12))) rNil))))) rNil)) (rC (.int 5))) rNil))) ::
    (sAsg (rKeep (rBin gCat (rKeep (rLc (rSeq (rC (.str "abcdefghijklmnopqrstuvwxyz"))) (gName 9) [9] bYes (rBin gAdd (rC (.str "a")) (rVar 9)))) (rKeep (rLc (rSeq (rC (.str "abcdefghijklmno"))) (gName 9) [9] bYes (rBin gAdd (rC (.str "b")) (rVar 9)))))) (gName 7)) ::
    (sExpr (rMeth "list" mAppend (rVar 4) (rCons (rTup (rCons (rTup (rCons (rC (.str "jump")) (rCons (rTup rNil) (rCons (rAs gTuple (rCons (rKeep (rLc (rSeq (rVar 7)) (gName 10) [10] bYes (rTup (rCons (rVar 10) (rCons (rVar 3) rNil))))) rNil)) (rCons (rTup (rCons (rVar 2) rNil)) rNil))))) rNil)) rNil))) :: []
theorem none_eq : b__law_none = seqs noneL noneZ := rfl
def noneR : Out := seqs noneL sNext [some (.lst []), some (.ptr 1), none, none, none, none, none, none, none, none, none] (Sx 0 0 0)
def noneJ : Sto := match noneR with
  | .nx _ S => S.drop 2
  | _ => []
def noneD : Sl := match noneR with
  | .nx δ _ => δ.drop 1
  | _ => []
def noneK : Nat := match noneD.getD 3 none with
  | some (.ptr k) => k
  | _ => 0
def noneI : List D := match noneJ.getD (noneK - 2) .non with
  | .lst xs => xs
  | _ => []
theorem none_len : noneI.length = 52 := by kernel_rfl
theorem none_run (x0 : D) (P : Addr) (a b : Int) : seqs noneL sNext [some x0, some (.ptr 1), none, none, none, none, none, none, none, none, none] (Sx P a b) = .nx (some x0 :: noneD) (Sx P a b ++ noneJ) := by kernel_rfl
/-- the n-th thing, as it is told -/
def itm (n : Nat) : D := noneI.getD n .non
/-- what is asked of it -/
def NoPr (d : D) (S : Sto) : Prop := m_is_program [d] S = .ok (.bl false) S ∧ m_need_program [d] S = .err "BadQuestion" [] S ∧ m_program_boxes [d] S = .err "BadQuestion" [] S ∧ m_is_plain [d] S = .err "BadQuestion" [] S ∧ m_program_step [d] S = .err "BadQuestion" [] S ∧
  m_shortened [d] S = .err "BadQuestion" [] S ∧ m_loops_in [d] S = .err "BadQuestion" [] S ∧ m_run [d, .non, .non] S = .err "BadQuestion" [] S
end DL
set_option Elab.async false
set_option linter.all false
set_option maxRecDepth 1000000
set_option maxHeartbeats 0
set_option autoImplicit false
namespace DL
open PySem L2
theorem it_0 (P : Addr) (a b : Int) : NoPr (itm 0) (Sx P a b ++ noneJ) := ⟨by kernel_rfl, by kernel_rfl, by kernel_rfl, by kernel_rfl, by kernel_rfl, by kernel_rfl, by kernel_rfl, by kernel_rfl⟩
theorem it_7 (P : Addr) (a b : Int) : NoPr (itm 7) (Sx P a b ++ noneJ) := ⟨by kernel_rfl, by kernel_rfl, by kernel_rfl, by kernel_rfl, by kernel_rfl, by kernel_rfl, by kernel_rfl, by kernel_rfl⟩
theorem it_14 (P : Addr) (a b : Int) : NoPr (itm 14) (Sx P a b ++ noneJ) := ⟨by kernel_rfl, by kernel_rfl, by kernel_rfl, by kernel_rfl, by kernel_rfl, by kernel_rfl, by kernel_rfl, by kernel_rfl⟩
theorem it_21 (P : Addr) (a b : Int) : NoPr (itm 21) (Sx P a b ++ noneJ) := ⟨by kernel_rfl, by kernel_rfl, by kernel_rfl, by kernel_rfl, by kernel_rfl, by kernel_rfl, by kernel_rfl, by kernel_rfl⟩
theorem it_28 (P : Addr) (a b : Int) : NoPr (itm 28) (Sx P a b ++ noneJ) := ⟨by kernel_rfl, by kernel_rfl, by kernel_rfl, by kernel_rfl, by kernel_rfl, by kernel_rfl, by kernel_rfl, by kernel_rfl⟩
theorem it_35 (P : Addr) (a b : Int) : NoPr (itm 35) (Sx P a b ++ noneJ) := ⟨by kernel_rfl, by kernel_rfl, by kernel_rfl, by kernel_rfl, by kernel_rfl, by kernel_rfl, by kernel_rfl, by kernel_rfl⟩
theorem it_42 (P : Addr) (a b : Int) : NoPr (itm 42) (Sx P a b ++ noneJ) := ⟨by kernel_rfl, by kernel_rfl, by kernel_rfl, by kernel_rfl, by kernel_rfl, by kernel_rfl, by kernel_rfl, by kernel_rfl⟩
theorem it_49 (P : Addr) (a b : Int) : NoPr (itm 49) (Sx P a b ++ noneJ) := ⟨by kernel_rfl, by kernel_rfl, by kernel_rfl, by kernel_rfl, by kernel_rfl, by kernel_rfl, by kernel_rfl, by kernel_rfl⟩
end DL
set_option Elab.async false
set_option linter.all false
set_option maxRecDepth 1000000
set_option maxHeartbeats 0
set_option autoImplicit false
namespace DL
open PySem L2
theorem it_1 (P : Addr) (a b : Int) : NoPr (itm 1) (Sx P a b ++ noneJ) := ⟨by kernel_rfl, by kernel_rfl, by kernel_rfl, by kernel_rfl, by kernel_rfl, by kernel_rfl, by kernel_rfl, by kernel_rfl⟩
theorem it_8 (P : Addr) (a b : Int) : NoPr (itm 8) (Sx P a b ++ noneJ) := ⟨by kernel_rfl, by kernel_rfl, by kernel_rfl, by kernel_rfl, by kernel_rfl, by kernel_rfl, by kernel_rfl, by kernel_rfl⟩
theorem it_15 (P : Addr) (a b : Int) : NoPr (itm 15) (Sx P a b ++ noneJ) := ⟨by kernel_rfl, by kernel_rfl, by kernel_rfl, by kernel_rfl, by kernel_rfl, by kernel_rfl, by kernel_rfl, by kernel_rfl⟩
theorem it_22 (P : Addr) (a b : Int) : NoPr (itm 22) (Sx P a b ++ noneJ) := ⟨by kernel_rfl, by kernel_rfl, by kernel_rfl, by kernel_rfl, by kernel_rfl, by kernel_rfl, by kernel_rfl, by kernel_rfl⟩
theorem it_29 (P : Addr) (a b : Int) : NoPr (itm 29) (Sx P a b ++ noneJ) := ⟨by kernel_rfl, by kernel_rfl, by kernel_rfl, by kernel_rfl, by kernel_rfl, by kernel_rfl, by kernel_rfl, by kernel_rfl⟩
theorem it_36 (P : Addr) (a b : Int) : NoPr (itm 36) (Sx P a b ++ noneJ) := ⟨by kernel_rfl, by kernel_rfl, by kernel_rfl, by kernel_rfl, by kernel_rfl, by kernel_rfl, by kernel_rfl, by kernel_rfl⟩
theorem it_43 (P : Addr) (a b : Int) : NoPr (itm 43) (Sx P a b ++ noneJ) := ⟨by kernel_rfl, by kernel_rfl, by kernel_rfl, by kernel_rfl, by kernel_rfl, by kernel_rfl, by kernel_rfl, by kernel_rfl⟩
theorem it_50 (P : Addr) (a b : Int) : NoPr (itm 50) (Sx P a b ++ noneJ) := ⟨by kernel_rfl, by kernel_rfl, by kernel_rfl, by kernel_rfl, by kernel_rfl, by kernel_rfl, by kernel_rfl, by kernel_rfl⟩
end DL
set_option Elab.async false
set_option linter.all false
set_option maxRecDepth 1000000
set_option maxHeartbeats 0
set_option autoImplicit false
namespace DL
open PySem L2
theorem it_2 (P : Addr) (a b : Int) : NoPr (itm 2) (Sx P a b ++ noneJ) := ⟨by kernel_rfl, by kernel_rfl, by kernel_rfl, by kernel_rfl, by kernel_rfl, by kernel_rfl, by kernel_rfl, by kernel_rfl⟩
theorem it_9 (P : Addr) (a b : Int) : NoPr (itm 9) (Sx P a b ++ noneJ) := ⟨by kernel_rfl, by kernel_rfl, by kernel_rfl, by kernel_rfl, by kernel_rfl, by kernel_rfl, by kernel_rfl, by kernel_rfl⟩
theorem it_16 (P : Addr) (a b : Int) : NoPr (itm 16) (Sx P a b ++ noneJ) := ⟨by kernel_rfl, by kernel_rfl, by kernel_rfl, by kernel_rfl, by kernel_rfl, by kernel_rfl, by kernel_rfl, by kernel_rfl⟩
theorem it_23 (P : Addr) (a b : Int) : NoPr (itm 23) (Sx P a b ++ noneJ) := ⟨by kernel_rfl, by kernel_rfl, by kernel_rfl, by kernel_rfl, by kernel_rfl, by kernel_rfl, by kernel_rfl, by kernel_rfl⟩
theorem it_30 (P : Addr) (a b : Int) : NoPr (itm 30) (Sx P a b ++ noneJ) := ⟨by kernel_rfl, by kernel_rfl, by kernel_rfl, by kernel_rfl, by kernel_rfl, by kernel_rfl, by kernel_rfl, by kernel_rfl⟩
theorem it_37 (P : Addr) (a b : Int) : NoPr (itm 37) (Sx P a b ++ noneJ) := ⟨by kernel_rfl, by kernel_rfl, by kernel_rfl, by kernel_rfl, by kernel_rfl, by kernel_rfl, by kernel_rfl, by kernel_rfl⟩
theorem it_44 (P : Addr) (a b : Int) : NoPr (itm 44) (Sx P a b ++ noneJ) := ⟨by kernel_rfl, by kernel_rfl, by kernel_rfl, by kernel_rfl, by kernel_rfl, by kernel_rfl, by kernel_rfl, by kernel_rfl⟩
theorem it_51 (P : Addr) (a b : Int) : NoPr (itm 51) (Sx P a b ++ noneJ) := ⟨by kernel_rfl, by kernel_rfl, by kernel_rfl, by kernel_rfl, by kernel_rfl, by kernel_rfl, by kernel_rfl, by kernel_rfl⟩
end DL
set_option Elab.async false
set_option linter.all false
set_option maxRecDepth 1000000
set_option maxHeartbeats 0
set_option autoImplicit false
namespace DL
open PySem L2
theorem it_3 (P : Addr) (a b : Int) : NoPr (itm 3) (Sx P a b ++ noneJ) := ⟨by kernel_rfl, by kernel_rfl, by kernel_rfl, by kernel_rfl, by kernel_rfl, by kernel_rfl, by kernel_rfl, by kernel_rfl⟩
theorem it_10 (P : Addr) (a b : Int) : NoPr (itm 10) (Sx P a b ++ noneJ) := ⟨by kernel_rfl, by kernel_rfl, by kernel_rfl, by kernel_rfl, by kernel_rfl, by kernel_rfl, by kernel_rfl, by kernel_rfl⟩
theorem it_17 (P : Addr) (a b : Int) : NoPr (itm 17) (Sx P a b ++ noneJ) := ⟨by kernel_rfl, by kernel_rfl, by kernel_rfl, by kernel_rfl, by kernel_rfl, by kernel_rfl, by kernel_rfl, by kernel_rfl⟩
theorem it_24 (P : Addr) (a b : Int) : NoPr (itm 24) (Sx P a b ++ noneJ) := ⟨by kernel_rfl, by kernel_rfl, by kernel_rfl, by kernel_rfl, by kernel_rfl, by kernel_rfl, by kernel_rfl, by kernel_rfl⟩
theorem it_31 (P : Addr) (a b : Int) : NoPr (itm 31) (Sx P a b ++ noneJ) := ⟨by kernel_rfl, by kernel_rfl, by kernel_rfl, by kernel_rfl, by kernel_rfl, by kernel_rfl, by kernel_rfl, by kernel_rfl⟩
theorem it_38 (P : Addr) (a b : Int) : NoPr (itm 38) (Sx P a b ++ noneJ) := ⟨by kernel_rfl, by kernel_rfl, by kernel_rfl, by kernel_rfl, by kernel_rfl, by kernel_rfl, by kernel_rfl, by kernel_rfl⟩
theorem it_45 (P : Addr) (a b : Int) : NoPr (itm 45) (Sx P a b ++ noneJ) := ⟨by kernel_rfl, by kernel_rfl, by kernel_rfl, by kernel_rfl, by kernel_rfl, by kernel_rfl, by kernel_rfl, by kernel_rfl⟩
end DL
set_option Elab.async false
set_option linter.all false
set_option maxRecDepth 1000000
set_option maxHeartbeats 0
set_option autoImplicit false
namespace DL
open PySem L2
theorem it_4 (P : Addr) (a b : Int) : NoPr (itm 4) (Sx P a b ++ noneJ) := ⟨by kernel_rfl, by kernel_rfl, by kernel_rfl, by kernel_rfl, by kernel_rfl, by kernel_rfl, by kernel_rfl, by kernel_rfl⟩
theorem it_11 (P : Addr) (a b : Int) : NoPr (itm 11) (Sx P a b ++ noneJ) := ⟨by kernel_rfl, by kernel_rfl, by kernel_rfl, by kernel_rfl, by kernel_rfl, by kernel_rfl, by kernel_rfl, by kernel_rfl⟩
theorem it_18 (P : Addr) (a b : Int) : NoPr (itm 18) (Sx P a b ++ noneJ) := ⟨by kernel_rfl, by kernel_rfl, by kernel_rfl, by kernel_rfl, by kernel_rfl, by kernel_rfl, by kernel_rfl, by kernel_rfl⟩
theorem it_25 (P : Addr) (a b : Int) : NoPr (itm 25) (Sx P a b ++ noneJ) := ⟨by kernel_rfl, by kernel_rfl, by kernel_rfl, by kernel_rfl, by kernel_rfl, by kernel_rfl, by kernel_rfl, by kernel_rfl⟩
theorem it_32 (P : Addr) (a b : Int) : NoPr (itm 32) (Sx P a b ++ noneJ) := ⟨by kernel_rfl, by kernel_rfl, by kernel_rfl, by kernel_rfl, by kernel_rfl, by kernel_rfl, by kernel_rfl, by kernel_rfl⟩
theorem it_39 (P : Addr) (a b : Int) : NoPr (itm 39) (Sx P a b ++ noneJ) := ⟨by kernel_rfl, by kernel_rfl, by kernel_rfl, by kernel_rfl, by kernel_rfl, by kernel_rfl, by kernel_rfl, by kernel_rfl⟩
theorem it_46 (P : Addr) (a b : Int) : NoPr (itm 46) (Sx P a b ++ noneJ) := ⟨by kernel_rfl, by kernel_rfl, by kernel_rfl, by kernel_rfl, by kernel_rfl, by kernel_rfl, by kernel_rfl, by kernel_rfl⟩
end DL
set_option Elab.async false
set_option linter.all false
set_option maxRecDepth 1000000
set_option maxHeartbeats 0
set_option autoImplicit false
namespace DL
open PySem L2
theorem it_5 (P : Addr) (a b : Int) : NoPr (itm 5) (Sx P a b ++ noneJ) := ⟨by kernel_rfl, by kernel_rfl, by kernel_rfl, by kernel_rfl, by kernel_rfl, by kernel_rfl, by kernel_rfl, by kernel_rfl⟩
theorem it_12 (P : Addr) (a b : Int) : NoPr (itm 12) (Sx P a b ++ noneJ) := ⟨by kernel_rfl, by kernel_rfl, by kernel_rfl, by kernel_rfl, by kernel_rfl, by kernel_rfl, by kernel_rfl, by kernel_rfl⟩
theorem it_19 (P : Addr) (a b : Int) : NoPr (itm 19) (Sx P a b ++ noneJ) := ⟨by kernel_rfl, by kernel_rfl, by kernel_rfl, by kernel_rfl, by kernel_rfl, by kernel_rfl, by kernel_rfl, by kernel_rfl⟩
theorem it_26 (P : Addr) (a b : Int) : NoPr (itm 26) (Sx P a b ++ noneJ) := ⟨by kernel_rfl, by kernel_rfl, by kernel_rfl, by kernel_rfl, by kernel_rfl, by kernel_rfl, by kernel_rfl, by kernel_rfl⟩
theorem it_33 (P : Addr) (a b : Int) : NoPr (itm 33) (Sx P a b ++ noneJ) := ⟨by kernel_rfl, by kernel_rfl, by kernel_rfl, by kernel_rfl, by kernel_rfl, by kernel_rfl, by kernel_rfl, by kernel_rfl⟩
theorem it_40 (P : Addr) (a b : Int) : NoPr (itm 40) (Sx P a b ++ noneJ) := ⟨by kernel_rfl, by kernel_rfl, by kernel_rfl, by kernel_rfl, by kernel_rfl, by kernel_rfl, by kernel_rfl, by kernel_rfl⟩
theorem it_47 (P : Addr) (a b : Int) : NoPr (itm 47) (Sx P a b ++ noneJ) := ⟨by kernel_rfl, by kernel_rfl, by kernel_rfl, by kernel_rfl, by kernel_rfl, by kernel_rfl, by kernel_rfl, by kernel_rfl⟩
end DL
set_option Elab.async false
set_option linter.all false
set_option maxRecDepth 1000000
set_option maxHeartbeats 0
set_option autoImplicit false
namespace DL
open PySem L2
theorem it_6 (P : Addr) (a b : Int) : NoPr (itm 6) (Sx P a b ++ noneJ) := ⟨by kernel_rfl, by kernel_rfl, by kernel_rfl, by kernel_rfl, by kernel_rfl, by kernel_rfl, by kernel_rfl, by kernel_rfl⟩
theorem it_13 (P : Addr) (a b : Int) : NoPr (itm 13) (Sx P a b ++ noneJ) := ⟨by kernel_rfl, by kernel_rfl, by kernel_rfl, by kernel_rfl, by kernel_rfl, by kernel_rfl, by kernel_rfl, by kernel_rfl⟩
theorem it_20 (P : Addr) (a b : Int) : NoPr (itm 20) (Sx P a b ++ noneJ) := ⟨by kernel_rfl, by kernel_rfl, by kernel_rfl, by kernel_rfl, by kernel_rfl, by kernel_rfl, by kernel_rfl, by kernel_rfl⟩
theorem it_27 (P : Addr) (a b : Int) : NoPr (itm 27) (Sx P a b ++ noneJ) := ⟨by kernel_rfl, by kernel_rfl, by kernel_rfl, by kernel_rfl, by kernel_rfl, by kernel_rfl, by kernel_rfl, by kernel_rfl⟩
theorem it_34 (P : Addr) (a b : Int) : NoPr (itm 34) (Sx P a b ++ noneJ) := ⟨by kernel_rfl, by kernel_rfl, by kernel_rfl, by kernel_rfl, by kernel_rfl, by kernel_rfl, by kernel_rfl, by kernel_rfl⟩
theorem it_41 (P : Addr) (a b : Int) : NoPr (itm 41) (Sx P a b ++ noneJ) := ⟨by kernel_rfl, by kernel_rfl, by kernel_rfl, by kernel_rfl, by kernel_rfl, by kernel_rfl, by kernel_rfl, by kernel_rfl⟩
theorem it_48 (P : Addr) (a b : Int) : NoPr (itm 48) (Sx P a b ++ noneJ) := ⟨by kernel_rfl, by kernel_rfl, by kernel_rfl, by kernel_rfl, by kernel_rfl, by kernel_rfl, by kernel_rfl, by kernel_rfl⟩
end DL
set_option Elab.async false
set_option linter.all false
set_option maxRecDepth 1000000
set_option maxHeartbeats 0
set_option autoImplicit false
namespace DL
open PySem L2
def tn1 : RS := (sAsg (rCall m__law_none (rCons (rVar 0) (rCons (rVar 1) rNil))) (gName 3))
def tn2 : RS := (sIf (bVal (rBin gIsN (rCall m_is_program (rCons (rVar 3) rNil)) (rC (.bl false)))) (sRet (rC (.bl false))) sNext)
noncomputable def tn3 (tt : Nat → Addr) : RS := (sFor (rSeq (rTup (rCons (rC (.fn "need_program")) (rCons (rC (.fn "program_boxes")) (rCons (rC (.fn "is_plain")) (rCons (rC (.fn "program_step")) (rCons (rC (.fn "shortened")) (rCons (rC (.fn "loops_in")) rNil)))))))) (gName 4) (sIf (bVal (rBin gNe (rLam 0 (tt 0) "law.<locals>.<lambda>" [3, 4] (rCallV 4 [("need_program", m_need_program), ("program_boxes", m_program_boxes), ("is_plain", m_is_plain), ("program_step", m_program_step), ("shortened", m_shortened), ("loops_in", m_loops_in)] (rCons (rVar 3) rNil)) (fun d0 th => mDef 4 (bT__law_tried d0 th) [d0])) (rKeep (rLst (rCons (rC (.str "question")) rNil))))) (sRet (rC (.bl false))) sNext))
noncomputable def tn4 (tt : Nat → Addr) : RS := (sIf (bVal (rBin gNe (rLam 0 (tt 0) "law.<locals>.<lambda>" [3] (rCall m_run (rCons (rVar 3) (rCons (rC .non) (rCons (rC .non) rNil)))) (fun d0 th => mDef 4 (bT__law_tried d0 th) [d0])) (rKeep (rLst (rCons (rC (.str "question")) rNil))))) (sRet (rC (.bl false))) sNext)
def tn5 : RS := (sAsg (rKeep (rLst (rCons (rC .non) (rCons (rKeep (rLst rNil)) (rCons (rOwn (rDisp [((rC (.str "a")), (rC (.bl true)))])) (rCons (rOwn (rDisp [((rC (.str "A")), (rC (.int 1)))])) (rCons (rOwn (rDisp [((rC (.int 5)), (rC (.int 1)))])) (rCons (rOwn (rDisp [((rC (.str "a")), (rC (.str "1")))])) (rCons (rOwn (rDisp [((rC (.str "a")), (rC .non))])) (rCons (rTup (rCons (rTup (rCons (rC (.str "a")) (rCons (rC (.int 1)) rNil))) rNil)) rNil)))))))))) (gName 5))
def tn6 : RS := (sAsg (rBin gIx (rVar 5) (rCall m__law_draw (rCons (rVar 0) (rCons (rVar 1) (rCons (rC (.int 8)) rNil))))) (gName 5))
noncomputable def tn7 (tt : Nat → Addr) : RS := (sIf (bVal (rBin gNe (rLam 0 (tt 0) "law.<locals>.<lambda>" [5] (rCall m_run (rCons (rTup rNil) (rCons (rVar 5) (rCons (rC (.int 5)) rNil)))) (fun d0 th => mDef 4 (bT__law_tried d0 th) [d0])) (rKeep (rLst (rCons (rC (.str "question")) rNil))))) (sRet (rC (.bl false))) sNext)
def tn8 : RS := (sAsg (rBin gIx (rKeep (rLst (rCons (rC .non) (rCons (rUn gNeg (rC (.int 1))) (rCons (rC (.int 20001)) (rCons (rC (.bl true)) (rCons (rC (.str "5")) (rCons (rKeep (rLst (rCons (rC (.int 5)) rNil))) (rCons (rBin gPow (rC (.int 10)) (rC (.int 20))) rNil))))))))) (rCall m__law_draw (rCons (rVar 0) (rCons (rVar 1) (rCons (rC (.int 7)) rNil))))) (gName 6))
noncomputable def tn9 (tt : Nat → Addr) : RS := (sFor (rSeq (rTup (rCons (rC (.int 1)) (rCons (rBin gAdd (rBin gPow (rBin gPow (rC (.int 10)) (rC (.int 50))) (rC (.int 20))) (rC (.int 1))) rNil)))) (gName 7) (sIf (bVal (rBin gNe (rLam 0 (tt 0) "law.<locals>.<lambda>" [6, 7] (rCall m_run (rCons (rTup rNil) (rCons (rOwn (rDisp [((rC (.str "a")), (rVar 7))])) (rCons (rVar 6) rNil)))) (fun d0 th => mDef 4 (bT__law_tried d0 th) [d0])) (rKeep (rLst (rCons (rC (.str "question")) rNil))))) (sRet (rC (.bl false))) sNext))
noncomputable def tnR (tt : Nat → Addr) : RS := seqs [tn1, tn2, tn3 tt, tn4 tt, tn5, tn6, tn7 tt, tn8] (tn9 tt)
def rsA : RS := (sFor (rSeq (rTup (rCons (rC (.int 0)) (rCons (rC (.int 20000)) rNil)))) (gName 6) (sIf (bOr (bVal (rBin (gEqTD false) (rCall m_run (rCons (rTup rNil) (rCons (rOwn (rDisp [((rC (.str "b")), (rC (.int 5))), ((rC (.str "a")), (rC (.int 1)))])) (rCons (rVar 6) rNil)))) (rTup (rCons (rOwn (rDisp [((rC (.str "a")), (rC (.int 1))), ((rC (.str "b")), (rC (.int 5)))])) (rCons (rC (.int 0)) rNil))))) (bVal (rBin gNe (rCall m_shortened (rCons (rTup rNil) rNil)) (rTup rNil)))) (sRet (rC (.bl false))) sNext))
def rsB : RS := (sIf (bOr (bVal (rBin gIsN (rCall m_is_plain (rCons (rTup rNil) rNil)) (rC (.bl true)))) (bOr (bVal (rBin gNeB (rCall m_program_step (rCons (rTup rNil) rNil)) (rOwn (rC (.dct []))))) (bOr (bVal (rBin gNe (rCall m_program_boxes (rCons (rTup rNil) rNil)) (rKeep (rLst rNil)))) (bVal (rBin gNe (rCall m_loops_in (rCons (rTup rNil) rNil)) (rC (.int 0))))))) (sRet (rC (.bl false))) sNext)
def rsZ : RS := (sRet (rCall m__law_bounds_right rNil))
def rsR : RS := sSeq rsA (sSeq rsB rsZ)
def rngA : RA := (rRange (rCons (rAs gMin (rCons (rC (.int 40)) (rCons (rAs gMax (rCons (rC (.int 3)) (rCons (rAs gLen (rCons (rVar 0) rNil)) rNil))) rNil))) rNil))
theorem law_eq (tt : Nat → Addr) : b_law tt = sSeq ((sAsg (rOwn (rLst (rCons (rC (.int 0)) (rCons (rC (.int 0)) rNil)))) (gName 1))) (sSeq (sFor rngA (gName 2) (sLocal (tnR tt))) rsR) := rfl
theorem it_all : ∀ (n : Nat), n < 52 → ∀ (P : Addr) (a b : Int), NoPr (itm n) (Sx P a b ++ noneJ)
  | 0, _ => it_0
  | 1, _ => it_1
  | 2, _ => it_2
  | 3, _ => it_3
  | 4, _ => it_4
  | 5, _ => it_5
  | 6, _ => it_6
  | 7, _ => it_7
  | 8, _ => it_8
  | 9, _ => it_9
  | 10, _ => it_10
  | 11, _ => it_11
  | 12, _ => it_12
  | 13, _ => it_13
  | 14, _ => it_14
  | 15, _ => it_15
  | 16, _ => it_16
  | 17, _ => it_17
  | 18, _ => it_18
  | 19, _ => it_19
  | 20, _ => it_20
  | 21, _ => it_21
  | 22, _ => it_22
  | 23, _ => it_23
  | 24, _ => it_24
  | 25, _ => it_25
  | 26, _ => it_26
  | 27, _ => it_27
  | 28, _ => it_28
  | 29, _ => it_29
  | 30, _ => it_30
  | 31, _ => it_31
  | 32, _ => it_32
  | 33, _ => it_33
  | 34, _ => it_34
  | 35, _ => it_35
  | 36, _ => it_36
  | 37, _ => it_37
  | 38, _ => it_38
  | 39, _ => it_39
  | 40, _ => it_40
  | 41, _ => it_41
  | 42, _ => it_42
  | 43, _ => it_43
  | 44, _ => it_44
  | 45, _ => it_45
  | 46, _ => it_46
  | 47, _ => it_47
  | 48, _ => it_48
  | 49, _ => it_49
  | 50, _ => it_50
  | 51, _ => it_51
  | n + 52, h => absurd h (by omega)
abbrev S1 (P : Addr) (a b : Int) : Sto := Sx P a b ++ noneJ
theorem sane1 (P : Addr) (a b : Int) : closedL (S1 P a b).length (S1 P a b) = true := by kernel_rfl
theorem kind1 (P : Addr) (a b : Int) : m__law_kind [.exc "BadQuestion" []] (S1 P a b) = .ok (.lst [.str "question"]) (S1 P a b) := by kernel_rfl
def oddR : Out := tn5 [none, none, none, none, none, none, none, none] (S1 0 0 0)
def oddJ : Sto := match oddR with
  | .nx _ S => S.drop (S1 0 0 0).length
  | _ => []
def oddI : List D := match oddR with
  | .nx δ _ => (match δ.getD 5 none with
    | some (.lst xs) => xs
    | _ => [])
  | _ => []
abbrev S2 (P : Addr) (a b : Int) : Sto := Sx P a b ++ (noneJ ++ oddJ)
theorem odd_len : oddI.length = 8 := by kernel_rfl
theorem odd_run (x0 x1 x2 x3 x4 x5 x6 x7 : Option D) (P : Addr) (a b : Int) : tn5 [x0, x1, x2, x3, x4, x5, x6, x7] (S1 P a b) = .nx [x0, x1, x2, x3, x4, some (.lst oddI), x6, x7] (S2 P a b) := by kernel_rfl
theorem sane2 (P : Addr) (a b : Int) : closedL (S2 P a b).length (S2 P a b) = true := by kernel_rfl
theorem kind2 (P : Addr) (a b : Int) : m__law_kind [.exc "BadQuestion" []] (S2 P a b) = .ok (.lst [.str "question"]) (S2 P a b) := by kernel_rfl
theorem odd_all : ∀ (n : Nat), n < 8 → ∀ (P : Addr) (a b : Int), m_run [.tup [], oddI.getD n .non, .int 5] (S2 P a b) = .err "BadQuestion" [] (S2 P a b)
  | 0, _ => fun P a b => by kernel_rfl
  | 1, _ => fun P a b => by kernel_rfl
  | 2, _ => fun P a b => by kernel_rfl
  | 3, _ => fun P a b => by kernel_rfl
  | 4, _ => fun P a b => by kernel_rfl
  | 5, _ => fun P a b => by kernel_rfl
  | 6, _ => fun P a b => by kernel_rfl
  | 7, _ => fun P a b => by kernel_rfl
  | n + 8, h => absurd h (by omega)
def limI : List D := [.non, .int (-1), .int 20001, .bl true, .str "5", .lst [.int 5], .int 100000000000000000000]
def numI : List D := [.int 1, .int ((10 ^ 50) ^ 20 + 1)]
abbrev S3 (P : Addr) (a b : Int) (v : D) : Sto := Sx P a b ++ (noneJ ++ (oddJ ++ [.dct [(.str "a", v)]]))
theorem kind3 (P : Addr) (a b : Int) (v : Int) : m__law_kind [.exc "BadQuestion" []] (S3 P a b (.int v)) = .ok (.lst [.str "question"]) (S3 P a b (.int v)) := by kernel_rfl
theorem lim_all (P : Addr) (a b v : Int) (x0 x1 x2 x3 x4 x5 : Option D) : ∀ (n : Nat), n < 7 → (rCall m_run (rCons (rTup rNil) (rCons (rOwn (rDisp [((rC (.str "a")), (rVar 7))])) (rCons (rVar 6) rNil)))) [x0, x1, x2, x3, x4, x5, some (limI.getD n .non), some (.int v)] (S2 P a b) = .err "BadQuestion" [] (S3 P a b (.int v))
  | 0, _ => by kernel_rfl
  | 1, _ => by kernel_rfl
  | 2, _ => by kernel_rfl
  | 3, _ => by kernel_rfl
  | 4, _ => by kernel_rfl
  | 5, _ => by kernel_rfl
  | 6, _ => by kernel_rfl
  | n + 7, h => absurd h (by omega)
theorem lim_run (δ : Sl) (S : Sto) : (rKeep (rLst (rCons (rC .non) (rCons (rUn gNeg (rC (.int 1))) (rCons (rC (.int 20001)) (rCons (rC (.bl true)) (rCons (rC (.str "5")) (rCons (rKeep (rLst (rCons (rC (.int 5)) rNil))) (rCons (rBin gPow (rC (.int 10)) (rC (.int 20))) rNil))))))))) δ S = .ok (.lst limI) S := by kernel_rfl
theorem num_run (δ : Sl) (S : Sto) : (rSeq (rTup (rCons (rC (.int 1)) (rCons (rBin gAdd (rBin gPow (rBin gPow (rC (.int 10)) (rC (.int 50))) (rC (.int 20))) (rC (.int 1))) rNil)))) δ S = .ok numI S := by kernel_rfl
def outOk : Out → Bool
  | .rt (.bl true) S => closedL 1 (S.take 1) && (S.take 1).length == 1
  | _ => false
end DL
set_option Elab.async false
set_option linter.all false
set_option maxRecDepth 1000000
set_option maxHeartbeats 0
set_option autoImplicit false
namespace DL
open PySem L2
def rnL : List RS := 
    (sAsg (rCall m_program_boxes (rCons (rVar 0) rNil)) (gName 3)) ::
    (sIf (bNot (bTru (rCall m_are_numbers (rCons (rVar 1) rNil)))) (sRaise0 "BadQuestion") sNext) ::
    (sIf (bNot (bTru (rCall m_is_among (rCons (rVar 2) (rCons (rC (.int 0)) (rCons (rC (.int 20000)) rNil)))))) (sRaise0 "BadQuestion") sNext) ::
    (sAsg (rOwn (rAs gDict (rCons (rKeep (rLc (rSeq (rVar 3)) (gName 6) [6] bYes (rTup (rCons (rVar 6) (rCons (rC (.int 0)) rNil))))) rNil))) (gName 4)) ::
    (sExpr (rUpd (rVar 4) (rVar 1))) ::
    (sAsg (rMakeI "Runner" m_Runner___init__ (rCons (rVar 4) (rCons (rVar 2) rNil))) (gName 5)) ::
    (sExpr (rMethI "Runner" "put" m_Runner_put (rVar 5) (rCons (rOwn (rAs gDict (rCons (rVar 4) rNil))) rNil))) ::
    (sExpr (rMethI "Runner" "go" m_Runner_go (rVar 5) (rCons (rVar 0) rNil))) :: []
def rnZ : RS := (sRet (rTup (rCons (rOwn (rAs gDict (rCons (rKeep (rSortItems (rFldI "Runner" "held" (rVar 5)))) rNil))) (rCons (rFldI "Runner" "deeds" (rVar 5)) rNil))))
theorem run_eq : b_run = seqs rnL rnZ := rfl
def dIn : D := .dct [(.str "b", .int 5), (.str "a", .int 1)]
def dOut : D := .dct [(.str "a", .int 1), (.str "b", .int 5)]
def preO (K : Sto) (l : Int) : Out := seqs rnL sNext [some (.tup []), some (.ptr (2 + K.length)), some (.int l), none, none, none, none] (Sx 0 0 0 ++ (K ++ [dIn]))
def preS (K : Sto) (l : Int) : Sto := match preO K l with
  | .nx _ S => S.drop 2
  | _ => []
def preD (K : Sto) (l : Int) : Sl := match preO K l with
  | .nx δ _ => δ
  | _ => []
def kA : Sto := []
def kB : Sto := preS kA 0 ++ [dOut, dOut]
def kC : Sto := preS kB 20000 ++ [dOut, dOut]
def iA : D := .tup [.str "b", .int 5]
def iB : D := .tup [.str "a", .int 1]
theorem two_sort {A : Type} (le : A → A → Bool) (x y : A) (h : le x y = false) : [x, y].mergeSort le = [y, x] := by
  rw [List.mergeSort]
  simp [List.MergeSort.Internal.splitInTwo, List.mergeSort, List.merge, h]
theorem sort_ab (S : Sto) : sortD S [iA, iB] = some [iB, iA] := by
  unfold sortD
  rw [show toPys S [iA, iB] = some [.tuple [.str "b", .int 5], .tuple [.str "a", .int 1]] from rfl]
  dsimp only
  rw [if_pos (by decide +kernel)]
  unfold sortBy
  rw [show [iA, iB].zip [PyData.tuple [.str "b", .int 5], .tuple [.str "a", .int 1]] = [(iA, .tuple [.str "b", .int 5]), (iB, .tuple [.str "a", .int 1])] from rfl, two_sort _ _ _ (by decide +kernel)]
  rfl
theorem pre_kA (P : Addr) (a b : Int) : seqs rnL sNext [some (.tup []), some (.ptr (2 + kA.length)), some (.int 0), none, none, none, none] (Sx P a b ++ (kA ++ [dIn])) = .nx (preD kA 0) (Sx P a b ++ preS kA 0) := by kernel_rfl
theorem fld_kA (P : Addr) (a b : Int) : (rFldI "Runner" "held" (rVar 5)) (preD kA 0) (Sx P a b ++ preS kA 0) = .ok (.ptr (2 + kA.length + 1)) (Sx P a b ++ preS kA 0) := by kernel_rfl
theorem itm_kA (P : Addr) (a b : Int) : itemsOf (deref (Sx P a b ++ preS kA 0) (.ptr (2 + kA.length + 1))) = some [iA, iB] := by kernel_rfl
theorem srt_kA (P : Addr) (a b : Int) : rSortItems (rFldI "Runner" "held" (rVar 5)) (preD kA 0) (Sx P a b ++ preS kA 0) = .ok (.lst [iB, iA]) (Sx P a b ++ preS kA 0) := by
  unfold rSortItems
  rw [fld_kA]
  show Res.lift (((itemsOf (deref (Sx P a b ++ preS kA 0) (.ptr (2 + kA.length + 1)))).bind (sortD (Sx P a b ++ preS kA 0))).map D.lst) _ = _
  rw [itm_kA]
  show Res.lift ((sortD (Sx P a b ++ preS kA 0) [iA, iB]).map D.lst) _ = _
  rw [sort_ab]
  rfl
theorem pre_kB (P : Addr) (a b : Int) : seqs rnL sNext [some (.tup []), some (.ptr (2 + kB.length)), some (.int 20000), none, none, none, none] (Sx P a b ++ (kB ++ [dIn])) = .nx (preD kB 20000) (Sx P a b ++ preS kB 20000) := by kernel_rfl
theorem fld_kB (P : Addr) (a b : Int) : (rFldI "Runner" "held" (rVar 5)) (preD kB 20000) (Sx P a b ++ preS kB 20000) = .ok (.ptr (2 + kB.length + 1)) (Sx P a b ++ preS kB 20000) := by kernel_rfl
theorem itm_kB (P : Addr) (a b : Int) : itemsOf (deref (Sx P a b ++ preS kB 20000) (.ptr (2 + kB.length + 1))) = some [iA, iB] := by kernel_rfl
theorem srt_kB (P : Addr) (a b : Int) : rSortItems (rFldI "Runner" "held" (rVar 5)) (preD kB 20000) (Sx P a b ++ preS kB 20000) = .ok (.lst [iB, iA]) (Sx P a b ++ preS kB 20000) := by
  unfold rSortItems
  rw [fld_kB]
  show Res.lift (((itemsOf (deref (Sx P a b ++ preS kB 20000) (.ptr (2 + kB.length + 1)))).bind (sortD (Sx P a b ++ preS kB 20000))).map D.lst) _ = _
  rw [itm_kB]
  show Res.lift ((sortD (Sx P a b ++ preS kB 20000) [iA, iB]).map D.lst) _ = _
  rw [sort_ab]
  rfl
def rsZ1 (X : RE) : RS := sRet (rTup (rCons (rOwn (rAs gDict (rCons X rNil))) (rCons (rFldI "Runner" "deeds" (rVar 5)) rNil)))
theorem rnZ_eq : rnZ = rsZ1 (rKeep (rSortItems (rFldI "Runner" "held" (rVar 5)))) := rfl
def keepO : Out → Res D
  | .rt d S1 => .ok d S1
  | .nx _ S1 => .ok .non S1
  | .err c fs _ S1 => .err c fs S1
  | _ => .stuck
theorem keepO_eq (n : Nat) (b : RS) (ds : List D) (S : Sto) : mDefK n b ds S = keepO (b (ds.map some ++ List.replicate (n - ds.length) none) S) := by
  unfold mDefK keepO
  cases b (ds.map some ++ List.replicate (n - ds.length) none) S <;> rfl
theorem mrun_eq (x y z : D) (S : Sto) : m_run [x, y, z] S = keepO (b_run [some x, some y, some z, none, none, none, none] S) := keepO_eq 7 b_run [x, y, z] S
theorem rsZ1_ok {X : RE} {δ : Sl} {S : Sto} (h : X δ S = .ok (.lst [iB, iA]) S) : rsZ1 X δ S = ((rFldI "Runner" "deeds" (rVar 5)) δ (S ++ [dOut])).out δ (fun d S1 => if 2 ≤ sizeLine then .rt (.tup [.ptr S.length, d]) S1 else .stuck) := by
  have hg : gDict S [.lst [iB, iA]] = some dOut := rfl
  unfold rsZ1 sRet rTup rCons rOwn rAs rNil
  simp only [h, Res.bind, Res.lift, hg]
  cases (rFldI "Runner" "deeds" (rVar 5)) δ (S ++ [dOut]) with
  | ok d S1 =>
    by_cases h2 : 2 ≤ sizeLine
    · simp only [Res.bind, Res.out, List.length_cons, List.length_nil, if_pos h2]
    · simp only [Res.bind, Res.out, List.length_cons, List.length_nil, if_neg h2]
  | err c fs S1 => rfl
  | stuck => rfl
theorem dds_kA (P : Addr) (a b : Int) : ((rFldI "Runner" "deeds" (rVar 5)) (preD kA 0) ((Sx P a b ++ preS kA 0) ++ [dOut])).out (preD kA 0) (fun d S1 => if 2 ≤ sizeLine then .rt (.tup [.ptr (Sx P a b ++ preS kA 0).length, d]) S1 else .stuck) = .rt (.tup [.ptr (2 + (preS kA 0).length), .int 0]) (Sx P a b ++ (preS kA 0 ++ [dOut])) := by kernel_rfl
theorem run_kA (P : Addr) (a b : Int) : m_run [.tup [], .ptr (2 + kA.length), .int 0] (Sx P a b ++ (kA ++ [dIn])) = .ok (.tup [.ptr (2 + (preS kA 0).length), .int 0]) (Sx P a b ++ (preS kA 0 ++ [dOut])) := by
  rw [mrun_eq, run_eq, seqs_run, pre_kA]
  show keepO (rnZ (preD kA 0) (Sx P a b ++ preS kA 0)) = _
  rw [rnZ_eq, rsZ1_ok (by unfold rKeep; rw [srt_kA]; rfl), dds_kA]
  rfl
theorem cmp_kA (P : Addr) (a b : Int) : gEqTD false (Sx P a b ++ (preS kA 0 ++ [dOut, dOut])) (.tup [.ptr (2 + (preS kA 0).length), .int 0]) (.tup [.ptr (2 + (preS kA 0).length + 1), .int 0]) = some (.bl false) := by kernel_rfl
theorem sht_kA (P : Addr) (a b : Int) : m_shortened [.tup []] (Sx P a b ++ (preS kA 0 ++ [dOut, dOut])) = .ok (.tup []) (Sx P a b ++ (preS kA 0 ++ [dOut, dOut])) := by kernel_rfl
theorem dds_kB (P : Addr) (a b : Int) : ((rFldI "Runner" "deeds" (rVar 5)) (preD kB 20000) ((Sx P a b ++ preS kB 20000) ++ [dOut])).out (preD kB 20000) (fun d S1 => if 2 ≤ sizeLine then .rt (.tup [.ptr (Sx P a b ++ preS kB 20000).length, d]) S1 else .stuck) = .rt (.tup [.ptr (2 + (preS kB 20000).length), .int 0]) (Sx P a b ++ (preS kB 20000 ++ [dOut])) := by kernel_rfl
theorem run_kB (P : Addr) (a b : Int) : m_run [.tup [], .ptr (2 + kB.length), .int 20000] (Sx P a b ++ (kB ++ [dIn])) = .ok (.tup [.ptr (2 + (preS kB 20000).length), .int 0]) (Sx P a b ++ (preS kB 20000 ++ [dOut])) := by
  rw [mrun_eq, run_eq, seqs_run, pre_kB]
  show keepO (rnZ (preD kB 20000) (Sx P a b ++ preS kB 20000)) = _
  rw [rnZ_eq, rsZ1_ok (by unfold rKeep; rw [srt_kB]; rfl), dds_kB]
  rfl
theorem cmp_kB (P : Addr) (a b : Int) : gEqTD false (Sx P a b ++ (preS kB 20000 ++ [dOut, dOut])) (.tup [.ptr (2 + (preS kB 20000).length), .int 0]) (.tup [.ptr (2 + (preS kB 20000).length + 1), .int 0]) = some (.bl false) := by kernel_rfl
theorem sht_kB (P : Addr) (a b : Int) : m_shortened [.tup []] (Sx P a b ++ (preS kB 20000 ++ [dOut, dOut])) = .ok (.tup []) (Sx P a b ++ (preS kB 20000 ++ [dOut, dOut])) := by kernel_rfl
end DL
set_option Elab.async false
set_option linter.all false
set_option maxRecDepth 1000000
set_option maxHeartbeats 0
set_option autoImplicit false
namespace DL
open PySem L2
theorem rsB_run (x0 x2 x3 x4 x5 x6 x7 : Option D) (P : Addr) (a b : Int) : rsB [x0, some (.ptr 1), x2, x3, x4, x5, x6, x7] (Sx P a b ++ kC) = .nx [x0, some (.ptr 1), x2, x3, x4, x5, x6, x7] (Sx P a b ++ (kC ++ [.dct [], .dct []])) := by kernel_rfl
theorem rsZ_run (x0 x2 x3 x4 x5 x6 x7 : Option D) (P : Addr) (a b : Int) : outOk (rsZ [x0, some (.ptr 1), x2, x3, x4, x5, x6, x7] (Sx P a b ++ (kC ++ [.dct [], .dct []]))) = true := by kernel_rfl
end DL
set_option Elab.async false
set_option linter.all false
set_option maxRecDepth 100000
set_option maxHeartbeats 1000000
set_option autoImplicit false
namespace DL
open PySem L2
local macro_rules | `(tactic| walk_at "1") => `(tactic| with_reducible first
  | refine e_seq ?_ | refine e_asgP ?_ | refine e_if ?_ | refine e_next ?_ | refine e_exprP ?_ | refine s_seq ?_ | refine s_asg ?_ | refine s_ret ?_ | refine s_if ?_ | refine s_expr ?_ | refine s_next ?_ | refine s_brk ?_ | refine s_cont ?_ | refine s_for ?_ | refine s_while ?_
  | refine p_c ?_ | refine p_bin ?_ | refine p_as ?_ | refine p_cons ?_ | refine p_nil ?_ | refine p_un ?_ | refine p_call ?_ | refine p_if ?_ | refine p_own ?_
  | refine p_keep ?_ | refine p_tru ?_ | refine p_and ?_ | refine p_or ?_ | refine p_not ?_ | refine p_val ?_ | refine p_rand ?_ | refine p_ror ?_ | refine p_rnot ?_ | refine p_chain ?_ | refine p_bif ?_
  | refine o_add ?_ | refine o_sub ?_ | refine o_ltU ?_ | refine o_leU ?_ | refine o_gtU ?_ | refine o_geU ?_ | refine o_neg ?_ | refine o_eqI ?_ | refine o_neI ?_ | refine o_abs ?_ | refine o_tru ?_ | refine p_true ?_ | refine p_false ?_
  | refine o_lenT ?_ | refine o_lenL ?_ | refine o_ix0 ?_ | refine o_ix1 ?_ | refine o_ix2 ?_ | refine o_ix0L ?_ | refine o_ix1L ?_ | refine o_ix2L ?_
  | refine s_par ?_ | refine p_yes ?_ | refine p_seq ?_ | refine s_gnil ?_ | refine s_gcons ?_ | refine s_gtux ?_ | refine s_gtupl ?_ | refine p_onone ?_ | refine p_osome ?_ | refine p_get2 ?_ | refine s_putU ?_ | refine p_sortIt ?_)
local macro_rules | `(tactic| walk_at "2") => `(tactic| first
  | walk_at "1"
  | (with_reducible refine p_var2 ?_)
  | ((with_reducible refine s_name ?_ ?_); (· exact Nat.le_of_ble_eq_true rfl); dsimp only [List.set_cons_zero, List.set_cons_succ])
  | (with_reducible refine p_tup ?_) | (with_reducible refine p_lst ?_) | ((with_reducible refine ⟨?_, ?_⟩); (· exact Nat.le_of_ble_eq_true rfl))
  | ((with_reducible refine p_ex2 (x := ?_) (y := ?_) ?_ ?_); rotate_left; rotate_left; (· rfl); refine ⟨?_, ?_, ?_⟩; (· exact Nat.le_of_ble_eq_true rfl); (· exact Nat.le_of_ble_eq_true rfl); dsimp only [List.set_cons_zero, List.set_cons_succ])
  | ((with_reducible refine p_isT ?_ ?_); (· rfl)) | ((with_reducible refine p_isF ?_ ?_); (· rfl))
  | ((with_reducible refine p_ex (x := ?_) ?_ ?_); rotate_left; (· rfl)))
local macro_rules | `(tactic| walk_at "3") => `(tactic| repeat walk_at "2")
/-! ### behind the turns -/
theorem post_eq {A : Type} {r : Res A} {a : A} {S : Sto} {Q : A → Sto → Prop} (e : r = .ok a S) (q : Q a S) : r.post Q := by rw [e]; exact q
theorem lft_eq {A : Type} {o : Option A} {a : A} {S : Sto} {Q : A → Sto → Prop} (e : o = some a) (q : Q a S) : (Res.lift o S).post Q := by rw [e]; exact q
theorem dsp1 (δ : Sl) (S : Sto) : rDisp [((rC (.str "b")), (rC (.int 5))), ((rC (.str "a")), (rC (.int 1)))] δ S = .ok dIn S := by kernel_rfl
theorem dsp2 (δ : Sl) (S : Sto) : rDisp [((rC (.str "a")), (rC (.int 1))), ((rC (.str "b")), (rC (.int 5)))] δ S = .ok dOut S := by kernel_rfl
theorem len_sx (P : Addr) (a b : Int) (K : Sto) : (Sx P a b ++ K).length = 2 + K.length := by rw [List.length_append]; rfl
def bdA : RS := sIf (bOr (bVal (rBin (gEqTD false) (rCall m_run (rCons (rTup rNil) (rCons (rOwn (rDisp [((rC (.str "b")), (rC (.int 5))), ((rC (.str "a")), (rC (.int 1)))])) (rCons (rVar 6) rNil)))) (rTup (rCons (rOwn (rDisp [((rC (.str "a")), (rC (.int 1))), ((rC (.str "b")), (rC (.int 5)))])) (rCons (rC (.int 0)) rNil))))) (bVal (rBin gNe (rCall m_shortened (rCons (rTup rNil) rNil)) (rTup rNil)))) (sRet (rC (.bl false))) sNext
theorem rsA_eq : rsA = sFor (rSeq (rTup (rCons (rC (.int 0)) (rCons (rC (.int 20000)) rNil)))) (gName 6) bdA := rfl
theorem seq_run (δ : Sl) (S : Sto) : (rSeq (rTup (rCons (rC (.int 0)) (rCons (rC (.int 20000)) rNil)))) δ S = .ok [.int 0, .int 20000] S := by kernel_rfl
theorem bdA_ok {K K1 K2 : Sto} {l : Int} {x0 x1 x2 x3 x4 x5 x7 : Option D} {P : Addr} {a b : Int} {N B C : Sl → Sto → Prop}
    (h1 : m_run [.tup [], .ptr (2 + K.length), .int l] (Sx P a b ++ (K ++ [dIn])) = .ok (.tup [.ptr (2 + K1.length), .int 0]) (Sx P a b ++ (K1 ++ [dOut])))
    (h2 : gEqTD false (Sx P a b ++ (K1 ++ [dOut, dOut])) (.tup [.ptr (2 + K1.length), .int 0]) (.tup [.ptr (2 + K1.length + 1), .int 0]) = some (.bl false))
    (h3 : m_shortened [.tup []] (Sx P a b ++ (K1 ++ [dOut, dOut])) = .ok (.tup []) (Sx P a b ++ (K1 ++ [dOut, dOut]))) (e : K2 = K1 ++ [dOut, dOut])
    (q : N [x0, x1, x2, x3, x4, x5, some (.int l), x7] (Sx P a b ++ K2)) : (bdA [x0, x1, x2, x3, x4, x5, some (.int l), x7] (Sx P a b ++ K)).post N (fun _ _ => False) B C := by
  unfold bdA
  walk_at "3"
  refine post_eq (dsp1 _ _) ?_
  walk_at "3"
  rw [len_sx, List.append_assoc]
  refine post_eq h1 ?_
  walk_at "3"
  refine post_eq (dsp2 _ _) ?_
  walk_at "3"
  rw [len_sx, List.append_assoc, List.append_assoc, List.length_append]
  refine lft_eq h2 ?_
  walk_at "3"
  refine post_eq h3 ?_
  walk_at "3"
  refine lft_eq (a := D.bl false) rfl ?_
  refine ⟨false, rfl, (fun z => nomatch z), fun _ => ?_⟩
  refine s_next ?_
  rw [e] at q
  exact q
theorem kB_eq : kB = preS kA 0 ++ [dOut, dOut] := rfl
theorem kC_eq : kC = preS kB 20000 ++ [dOut, dOut] := rfl
theorem kA_eq (P : Addr) (a b : Int) : Sx P a b = Sx P a b ++ kA := by unfold kA; rw [List.append_nil]
theorem rsA_gen {A B C A1 B1 : Sto} (x0 x1 x2 x3 x4 x5 x6 x7 : Option D) (P : Addr) (a b : Int) (hA : Sx P a b = Sx P a b ++ A)
    (r1 : m_run [.tup [], .ptr (2 + A.length), .int 0] (Sx P a b ++ (A ++ [dIn])) = .ok (.tup [.ptr (2 + A1.length), .int 0]) (Sx P a b ++ (A1 ++ [dOut])))
    (c1 : gEqTD false (Sx P a b ++ (A1 ++ [dOut, dOut])) (.tup [.ptr (2 + A1.length), .int 0]) (.tup [.ptr (2 + A1.length + 1), .int 0]) = some (.bl false))
    (s1 : m_shortened [.tup []] (Sx P a b ++ (A1 ++ [dOut, dOut])) = .ok (.tup []) (Sx P a b ++ (A1 ++ [dOut, dOut]))) (e1 : B = A1 ++ [dOut, dOut])
    (r2 : m_run [.tup [], .ptr (2 + B.length), .int 20000] (Sx P a b ++ (B ++ [dIn])) = .ok (.tup [.ptr (2 + B1.length), .int 0]) (Sx P a b ++ (B1 ++ [dOut])))
    (c2 : gEqTD false (Sx P a b ++ (B1 ++ [dOut, dOut])) (.tup [.ptr (2 + B1.length), .int 0]) (.tup [.ptr (2 + B1.length + 1), .int 0]) = some (.bl false))
    (s2 : m_shortened [.tup []] (Sx P a b ++ (B1 ++ [dOut, dOut])) = .ok (.tup []) (Sx P a b ++ (B1 ++ [dOut, dOut]))) (e2 : C = B1 ++ [dOut, dOut]) :
    (rsA [x0, x1, x2, x3, x4, x5, x6, x7] (Sx P a b)).post (fun δ1 S1 => ∃ y6, δ1 = [x0, x1, x2, x3, x4, x5, y6, x7] ∧ S1 = Sx P a b ++ C) (fun _ _ => False) NoS NoS := by
  rw [rsA_eq]
  refine s_for ?_
  refine post_eq (seq_run _ _) ?_
  refine s_forL (fun xs δ S => ∃ y6, δ = [x0, x1, x2, x3, x4, x5, y6, x7] ∧ ((xs = [.int 0, .int 20000] ∧ S = Sx P a b ++ A) ∨ (xs = [.int 20000] ∧ S = Sx P a b ++ B) ∨ (xs = [] ∧ S = Sx P a b ++ C))) ?_ ?_ _ _ _ ⟨x6, rfl, .inl ⟨rfl, hA⟩⟩
  · rintro x xs δ S ⟨y6, rfl, h⟩
    rcases h with ⟨h1, rfl⟩ | ⟨h1, rfl⟩ | ⟨h1, rfl⟩
    · injection h1 with h1 h2
      subst h1
      subst h2
      walk_at "3"
      refine bdA_ok r1 c1 s1 e1 ?_
      exact ⟨_, rfl, .inr (.inl ⟨rfl, rfl⟩)⟩
    · injection h1 with h1 h2
      subst h1
      subst h2
      walk_at "3"
      refine bdA_ok r2 c2 s2 e2 ?_
      exact ⟨_, rfl, .inr (.inr ⟨rfl, rfl⟩)⟩
    · cases h1
  · rintro δ S ⟨y6, rfl, h⟩
    rcases h with ⟨h1, rfl⟩ | ⟨h1, rfl⟩ | ⟨_, rfl⟩
    · cases h1
    · cases h1
    · exact ⟨y6, rfl, rfl⟩
theorem rsA_ok (x0 x1 x2 x3 x4 x5 x6 x7 : Option D) (P : Addr) (a b : Int) : (rsA [x0, x1, x2, x3, x4, x5, x6, x7] (Sx P a b)).post (fun δ1 S1 => ∃ y6, δ1 = [x0, x1, x2, x3, x4, x5, y6, x7] ∧ S1 = Sx P a b ++ kC) (fun _ _ => False) NoS NoS :=
  rsA_gen x0 x1 x2 x3 x4 x5 x6 x7 P a b (kA_eq P a b) (run_kA P a b) (cmp_kA P a b) (sht_kA P a b) kB_eq (run_kB P a b) (cmp_kB P a b) (sht_kB P a b) kC_eq
theorem out_ok {o : Out} (h : outOk o = true) : o.post NoS (fun z S1 => z = .bl true ∧ closedL 1 (S1.take 1) = true ∧ (S1.take 1).length = 1) NoS NoS := by
  unfold outOk at h
  split at h
  · rw [Bool.and_eq_true] at h
    exact ⟨rfl, h.1, by simpa using h.2⟩
  · cases h
theorem rsR_ok (x0 x2 x3 x4 x5 x6 x7 : Option D) (P : Addr) (a b : Int) : (rsR [x0, some (.ptr 1), x2, x3, x4, x5, x6, x7] (Sx P a b)).post NoS (fun z S1 => z = .bl true ∧ closedL 1 (S1.take 1) = true ∧ (S1.take 1).length = 1) NoS NoS := by
  unfold rsR
  refine s_seq ((rsA_ok x0 (some (.ptr 1)) x2 x3 x4 x5 x6 x7 P a b).mono ?_ (fun _ _ z => z.elim) (fun _ _ z => z) (fun _ _ z => z))
  rintro δ1 S1 ⟨y6, rfl, rfl⟩
  show (sSeq rsB rsZ _ _).post _ _ _ _
  unfold sSeq
  rw [rsB_run]
  exact out_ok (rsZ_run _ _ _ _ _ _ _ _ _ _)
end DL
set_option Elab.async false
set_option linter.all false
set_option maxRecDepth 100000
set_option maxHeartbeats 1000000
set_option autoImplicit false
namespace DL
open PySem L2
local macro_rules | `(tactic| walk_at "1") => `(tactic| with_reducible first
  | refine e_seq ?_ | refine e_asgP ?_ | refine e_if ?_ | refine e_next ?_ | refine e_exprP ?_ | refine s_seq ?_ | refine s_asg ?_ | refine s_ret ?_ | refine s_if ?_ | refine s_expr ?_ | refine s_next ?_ | refine s_brk ?_ | refine s_cont ?_ | refine s_for ?_ | refine s_while ?_
  | refine p_c ?_ | refine p_bin ?_ | refine p_as ?_ | refine p_cons ?_ | refine p_nil ?_ | refine p_un ?_ | refine p_call ?_ | refine p_if ?_ | refine p_own ?_
  | refine p_keep ?_ | refine p_tru ?_ | refine p_and ?_ | refine p_or ?_ | refine p_not ?_ | refine p_val ?_ | refine p_rand ?_ | refine p_ror ?_ | refine p_rnot ?_ | refine p_chain ?_ | refine p_bif ?_
  | refine o_add ?_ | refine o_sub ?_ | refine o_ltU ?_ | refine o_leU ?_ | refine o_gtU ?_ | refine o_geU ?_ | refine o_neg ?_ | refine o_eqI ?_ | refine o_neI ?_ | refine o_abs ?_ | refine o_tru ?_ | refine p_true ?_ | refine p_false ?_
  | refine o_lenT ?_ | refine o_lenL ?_ | refine o_ix0 ?_ | refine o_ix1 ?_ | refine o_ix2 ?_ | refine o_ix0L ?_ | refine o_ix1L ?_ | refine o_ix2L ?_
  | refine s_par ?_ | refine p_yes ?_ | refine p_seq ?_ | refine s_gnil ?_ | refine s_gcons ?_ | refine s_gtux ?_ | refine s_gtupl ?_ | refine p_onone ?_ | refine p_osome ?_ | refine p_get2 ?_ | refine s_putU ?_ | refine p_sortIt ?_)
local macro_rules | `(tactic| walk_at "2") => `(tactic| first
  | walk_at "1"
  | (with_reducible refine p_var2 ?_)
  | ((with_reducible refine s_name ?_ ?_); (· exact Nat.le_of_ble_eq_true rfl); dsimp only [List.set_cons_zero, List.set_cons_succ])
  | (with_reducible refine p_tup ?_) | (with_reducible refine p_lst ?_) | ((with_reducible refine ⟨?_, ?_⟩); (· exact Nat.le_of_ble_eq_true rfl))
  | ((with_reducible refine p_ex2 (x := ?_) (y := ?_) ?_ ?_); rotate_left; rotate_left; (· rfl); refine ⟨?_, ?_, ?_⟩; (· exact Nat.le_of_ble_eq_true rfl); (· exact Nat.le_of_ble_eq_true rfl); dsimp only [List.set_cons_zero, List.set_cons_succ])
  | ((with_reducible refine p_isT ?_ ?_); (· rfl)) | ((with_reducible refine p_isF ?_ ?_); (· rfl))
  | ((with_reducible refine p_ex (x := ?_) ?_ ?_); rotate_left; (· rfl)))
local macro_rules | `(tactic| walk_at "3") => `(tactic| repeat walk_at "2")
/-! ### what is said of what is none -/
theorem keep_post {o : Out} {Q : D → Sto → Prop} (h : o.post (fun _ S1 => Q .non S1) Q NoS NoS) : (keepO o).post Q := by
  cases o with
  | nx δ S => exact h
  | rt d S => exact h
  | bk δ S => exact h.elim
  | ct δ S => exact h.elim
  | err c fs δ S => exact h.elim
  | stuck => exact h.elim
theorem noneD_eq : noneD = [some (.ptr 1), noneD.getD 1 none, noneD.getD 2 none, some (.ptr noneK), noneD.getD 4 none, noneD.getD 5 none, noneD.getD 6 none, noneD.getD 7 none, noneD.getD 8 none, noneD.getD 9 none] := by kernel_rfl
theorem noneI_at (P : Addr) (a b : Int) : (Sx P a b ++ noneJ)[noneK]? = some (.lst noneI) := by kernel_rfl
theorem lenP {S : Sto} {k : Nat} {xs : List D} {L : Int} {Q : D → Sto → Prop} (h : S[k]? = some (.lst xs)) (hL : L = (xs.length : Int)) (q : Q (.int L) S) : (Res.lift (gLen S [.ptr k]) S).post Q := p_lift (by unfold gLen; dsimp only; rw [deref_at h, hL]) q
theorem getD_at {xs : List D} {n : Nat} (h : n < xs.length) : xs[n]? = some (xs.getD n .non) := by
  rw [List.getD_eq_getElem?_getD, List.getElem?_eq_getElem h]
  rfl
theorem set_sx (P : Addr) (a b a' b' : Int) (J : Sto) : (Sx P a b ++ J).set 1 (tpD a' b') = Sx P a' b' ++ J := rfl
theorem noneZ_ok (ns : List Int) (P : Addr) (a b : Int) (ha : 0 ≤ a) (ha2 : a < 1000000) (hb : 0 ≤ b) (x2 x3 x5 x6 x7 x8 x9 x10 : Option D) {J : Sto} {k : Nat} {I : List D} (hI : ∀ a b : Int, (Sx P a b ++ J)[k]? = some (.lst I)) (hS : Sane (Sx P a b ++ J)) (h0 : 0 < I.length) (h1 : I.length < 1000) :
    (noneZ [some (.lst (ns.map .int)), some (.ptr 1), x2, x3, some (.ptr k), x5, x6, x7, x8, x9, x10] (Sx P a b ++ J)).post NoS (fun d S' => ∃ (n : Nat) (a' b' : Int), n < I.length ∧ 0 ≤ a' ∧ a' ≤ a + 1 ∧ 0 ≤ b' ∧ d = I.getD n .non ∧ S' = Sx P a' b' ++ J) NoS NoS := by
  obtain ⟨L, hL⟩ : ∃ L : Int, L = (I.length : Int) := ⟨_, rfl⟩
  have hl0 : 0 < L := by omega
  have hl1 : L < 1000 := by omega
  unfold noneZ
  walk_at "3"
  refine lenP (hI a b) hL ?_
  walk_at "3"
  refine (draw_spec ns _ 1 a b L hS rfl ha ha2 hb hl0 hl1).mono ?_
  rintro z S1 ⟨_, _, _, i, a', b', rfl, i0, i1, a0, a1, b0, rfl⟩
  rw [set_sx]
  walk_at "3"
  refine ix_ptr (hI a' b') (atI_nat i0 (getD_at (by omega))) ?_
  exact ⟨i.toNat, a', b', by omega, a0, a1, b0, rfl, rfl⟩
theorem noneZ_at {ns : List Int} {P : Addr} {a b : Int} (ha : 0 ≤ a) (ha2 : a < 1000000) (hb : 0 ≤ b) {J : Sto} {k : Nat} {I : List D} {δ : Sl} (y2 y3 y5 y6 y7 y8 y9 y10 : Option D) (hδ : δ = [some (.ptr 1), y2, y3, some (.ptr k), y5, y6, y7, y8, y9, y10]) (hI : ∀ a b : Int, (Sx P a b ++ J)[k]? = some (.lst I)) (hS : Sane (Sx P a b ++ J)) (hl : I.length = 52) :
    (keepO (noneZ (some (.lst (ns.map .int)) :: δ) (Sx P a b ++ J))).post (fun d S' => ∃ (n : Nat) (a' b' : Int), n < 52 ∧ 0 ≤ a' ∧ a' ≤ a + 1 ∧ 0 ≤ b' ∧ d = I.getD n .non ∧ S' = Sx P a' b' ++ J) := by
  subst hδ
  have h := noneZ_ok ns P a b ha ha2 hb y2 y3 y5 y6 y7 y8 y9 y10 hI hS (by omega) (by omega)
  rw [hl] at h
  exact keep_post (h.mono (fun _ _ z => z.elim) (fun _ _ z => z) (fun _ _ z => z) (fun _ _ z => z))
theorem none_s (P : Addr) (a b : Int) : Sane (Sx P a b ++ noneJ) := sane1 P a b
theorem none_eq2 (x : D) (P : Addr) (a b : Int) : m__law_none [x, .ptr 1] (Sx P a b) = keepO (noneZ (some x :: noneD) (Sx P a b ++ noneJ)) := by
  unfold m__law_none
  rw [keepO_eq, none_eq]
  have e : ([x, D.ptr 1].map some ++ List.replicate (11 - [x, D.ptr 1].length) none) = [some x, some (.ptr 1), none, none, none, none, none, none, none, none, none] := rfl
  rw [e, seqs_run, none_run]
theorem none_at {ns : List Int} {P : Addr} {a b : Int} (ha : 0 ≤ a) (ha2 : a < 1000000) (hb : 0 ≤ b) {J : Sto} {k : Nat} {I : List D} {δ : Sl} (hδ : ∃ y2 y3 y5 y6 y7 y8 y9 y10, δ = [some (.ptr 1), y2, y3, some (.ptr k), y5, y6, y7, y8, y9, y10]) (hI : ∀ a b : Int, (Sx P a b ++ J)[k]? = some (.lst I)) (hS : Sane (Sx P a b ++ J)) (hl : I.length = 52) :
    (keepO (noneZ (some (.lst (ns.map .int)) :: δ) (Sx P a b ++ J))).post (fun d S' => ∃ (n : Nat) (a' b' : Int), n < 52 ∧ 0 ≤ a' ∧ a' ≤ a + 1 ∧ 0 ≤ b' ∧ d = I.getD n .non ∧ S' = Sx P a' b' ++ J) := by
  obtain ⟨y2, y3, y5, y6, y7, y8, y9, y10, e⟩ := hδ
  exact noneZ_at ha ha2 hb y2 y3 y5 y6 y7 y8 y9 y10 e hI hS hl
theorem noneD_ex : ∃ y2 y3 y5 y6 y7 y8 y9 y10, noneD = [some (.ptr 1), y2, y3, some (.ptr noneK), y5, y6, y7, y8, y9, y10] := ⟨noneD.getD 1 none, noneD.getD 2 none, noneD.getD 4 none, noneD.getD 5 none, noneD.getD 6 none, noneD.getD 7 none, noneD.getD 8 none, noneD.getD 9 none, noneD_eq⟩
/-- a post in a box: an application whose type is a run would be reckoned by the elaborator -/
structure Told {A : Type} (r : Res A) (Q : A → Sto → Prop) : Prop where
  p : r.post Q
theorem none_spec (ns : List Int) (P : Addr) (a b : Int) (ha : 0 ≤ a) (ha2 : a < 1000000) (hb : 0 ≤ b) : Told (m__law_none [.lst (ns.map .int), .ptr 1] (Sx P a b)) (fun d S' => ∃ (n : Nat) (a' b' : Int), n < 52 ∧ 0 ≤ a' ∧ a' ≤ a + 1 ∧ 0 ≤ b' ∧ d = itm n ∧ S' = Sx P a' b' ++ noneJ) := by
  refine ⟨?_⟩
  rw [none_eq2]
  unfold itm
  have h1 := noneD_ex
  have h2 := noneI_at P
  have h3 := none_s P a b
  have h4 := none_len
  generalize noneD = D at *
  generalize noneJ = J at *
  generalize noneK = k at *
  generalize noneI = I at *
  exact none_at ha ha2 hb h1 h2 h3 h4
/-! ### what is told of a refusal -/
theorem thk_at {d0 : D} {T : Sto → Res D} {δ : Sl} {S : Sto} (h : δ[0]? = some (some d0)) : rThk d0 T δ S = T S := by unfold rThk; rw [if_pos h]
theorem tried_err {d0 : D} {T : Sto → Res D} {S S' : Sto} (hS : Sane S) (hT : T S = .err "BadQuestion" [] S') (hk : m__law_kind [.exc "BadQuestion" []] S' = .ok (.lst [.str "question"]) S') (ht : S'.take S.length = S) : mDef 4 (bT__law_tried d0 T) [d0] S = .ok (.lst [.str "question"]) S := by
  refine m_defJ hS rfl ?_
  show (bT__law_tried d0 T [some d0, none, none, none] S).post _ _ _ _
  unfold bT__law_tried
  walk_at "3"
  refine Out.post.mono (N1 := fun δ1 S1 => S1 = S' ∧ δ1 = [some d0, some (.exc "BadQuestion" []), some .non, none]) (T1 := NoD) (B1 := NoS) (C1 := NoS) ?_ ?_ (fun _ _ z => z.elim) (fun _ _ z => z.elim) (fun _ _ z => z.elim)
  · refine e_tryKeep (fun d S1 c fs S2 z => by cases z) ?_
    rw [thk_at (d0 := d0) (T := T) rfl, hT]
    refine (show (Res.err "BadQuestion" [] S' : Res D).pe (fun _ _ => False) (fun c f S1 => c = "BadQuestion" ∧ f = [] ∧ S1 = S') from ⟨rfl, rfl, rfl⟩).mono (fun _ _ z => z.elim) ?_
    rintro c f S1 ⟨rfl, rfl, rfl⟩
    refine ⟨by decide, by decide, by decide, ?_⟩
    walk_at "3"
    exact ⟨rfl, rfl⟩
  · rintro δ1 S1 ⟨rfl, rfl⟩
    walk_at "3"
    refine p_lift (a := D.bl false) rfl ?_
    walk_at "3"
    refine post_eq hk ?_
    walk_at "3"
    exact ⟨rfl, ht⟩
theorem p_lamC {k : Nat} {P : Addr} {q : Str} {cap : List Nat} {rb : RE} {mT : D → (Sto → Res D) → Sto → Res D} {δ : Sl} {S : Sto} {ds : List D} {d : D} {Q : D → Sto → Prop} (h1 : S[k]? = some (.lam P 0 q [] [])) (h2 : capD δ cap = some ds)
    (h : ∀ (f c' : Addr) (vs : List V), mT (.lam f c' q vs ds) (fun S1 => rb (mkSl δ.length cap ds) S1) S = .ok d S) (hq : Q d S) : (rLam k P q cap rb mT δ S).post Q := Res.post.of_eq (rLam_ok h1 h2 h) hq
theorem ne_q (S : Sto) : gNe S (.lst [.str "question"]) (.lst [.str "question"]) = some (.bl false) := by kernel_rfl
theorem if_lam {tt : Nat → Addr} {cap : List Nat} {rb : RE} {δ : Sl} {S S' : Sto} {ds : List D} {N : Sl → Sto → Prop} {T : D → Sto → Prop} {B C : Sl → Sto → Prop} (h1 : S[0]? = some (.lam (tt 0) 0 "law.<locals>.<lambda>" [] [])) (h2 : capD δ cap = some ds) (hS : Sane S) (hT : rb (mkSl δ.length cap ds) S = .err "BadQuestion" [] S')
    (hk : m__law_kind [.exc "BadQuestion" []] S' = .ok (.lst [.str "question"]) S') (ht : S'.take S.length = S) (hq : N δ S) :
    ((sIf (bVal (rBin gNe (rLam 0 (tt 0) "law.<locals>.<lambda>" cap rb (fun d0 th => mDef 4 (bT__law_tried d0 th) [d0])) (rKeep (rLst (rCons (rC (.str "question")) rNil))))) (sRet (rC (.bl false))) sNext) δ S).post N T B C := by
  refine s_if ?_
  walk_at "3"
  refine p_lamC h1 h2 (fun f c' vs => tried_err hS hT hk ht) ?_
  walk_at "3"
  refine lft_eq (ne_q S) ?_
  refine ⟨false, rfl, (fun z => nomatch z), fun _ => ?_⟩
  exact s_next hq
end DL
set_option Elab.async false
set_option linter.all false
set_option maxRecDepth 100000
set_option maxHeartbeats 1000000
set_option autoImplicit false
namespace DL
open PySem L2
local macro_rules | `(tactic| walk_at "1") => `(tactic| with_reducible first
  | refine e_seq ?_ | refine e_asgP ?_ | refine e_if ?_ | refine e_next ?_ | refine e_exprP ?_ | refine s_seq ?_ | refine s_asg ?_ | refine s_ret ?_ | refine s_if ?_ | refine s_expr ?_ | refine s_next ?_ | refine s_brk ?_ | refine s_cont ?_ | refine s_for ?_ | refine s_while ?_
  | refine p_c ?_ | refine p_bin ?_ | refine p_as ?_ | refine p_cons ?_ | refine p_nil ?_ | refine p_un ?_ | refine p_call ?_ | refine p_if ?_ | refine p_own ?_
  | refine p_keep ?_ | refine p_tru ?_ | refine p_and ?_ | refine p_or ?_ | refine p_not ?_ | refine p_val ?_ | refine p_rand ?_ | refine p_ror ?_ | refine p_rnot ?_ | refine p_chain ?_ | refine p_bif ?_
  | refine o_add ?_ | refine o_sub ?_ | refine o_ltU ?_ | refine o_leU ?_ | refine o_gtU ?_ | refine o_geU ?_ | refine o_neg ?_ | refine o_eqI ?_ | refine o_neI ?_ | refine o_abs ?_ | refine o_tru ?_ | refine p_true ?_ | refine p_false ?_
  | refine o_lenT ?_ | refine o_lenL ?_ | refine o_ix0 ?_ | refine o_ix1 ?_ | refine o_ix2 ?_ | refine o_ix0L ?_ | refine o_ix1L ?_ | refine o_ix2L ?_
  | refine s_par ?_ | refine p_yes ?_ | refine p_seq ?_ | refine s_gnil ?_ | refine s_gcons ?_ | refine s_gtux ?_ | refine s_gtupl ?_ | refine p_onone ?_ | refine p_osome ?_ | refine p_get2 ?_ | refine s_putU ?_ | refine p_sortIt ?_)
local macro_rules | `(tactic| walk_at "2") => `(tactic| first
  | walk_at "1"
  | (with_reducible refine p_var2 ?_)
  | ((with_reducible refine s_name ?_ ?_); (· exact Nat.le_of_ble_eq_true rfl); dsimp only [List.set_cons_zero, List.set_cons_succ])
  | (with_reducible refine p_tup ?_) | (with_reducible refine p_lst ?_) | ((with_reducible refine ⟨?_, ?_⟩); (· exact Nat.le_of_ble_eq_true rfl))
  | ((with_reducible refine p_ex2 (x := ?_) (y := ?_) ?_ ?_); rotate_left; rotate_left; (· rfl); refine ⟨?_, ?_, ?_⟩; (· exact Nat.le_of_ble_eq_true rfl); (· exact Nat.le_of_ble_eq_true rfl); dsimp only [List.set_cons_zero, List.set_cons_succ])
  | ((with_reducible refine p_isT ?_ ?_); (· rfl)) | ((with_reducible refine p_isF ?_ ?_); (· rfl))
  | ((with_reducible refine p_ex (x := ?_) ?_ ?_); rotate_left; (· rfl)))
local macro_rules | `(tactic| walk_at "3") => `(tactic| repeat walk_at "2")
/-! ### the turn -/
theorem callM {m : Mir} {as : RA} {δ : Sl} {S : Sto} {vs : List D} {r : Res D} (h1 : as δ S = .ok vs S) (h2 : m vs S = r) : rCall m as δ S = r := by
  unfold rCall
  rw [h1]
  exact h2
theorem callV_at {i : Nat} {ms : List (Str × Mir)} {as : RA} {δ : Sl} {S : Sto} {y : Str} {m : Mir} {vs : List D} {r : Res D} (h1 : δ[i]? = some (some (.fn y))) (h2 : ms.lookup y = some m) (h3 : as δ S = .ok vs S) (h4 : m vs S = r) : rCallV i ms as δ S = r := by
  unfold rCallV
  rw [h1]
  dsimp only
  rw [h2]
  dsimp only
  rw [h3]
  exact h4
def fnL : List D := [.fn "need_program", .fn "program_boxes", .fn "is_plain", .fn "program_step", .fn "shortened", .fn "loops_in"]
def fnT : List (Str × Mir) := [("need_program", m_need_program), ("program_boxes", m_program_boxes), ("is_plain", m_is_plain), ("program_step", m_program_step), ("shortened", m_shortened), ("loops_in", m_loops_in)]
theorem fn_run (δ : Sl) (S : Sto) : (rSeq (rTup (rCons (rC (.fn "need_program")) (rCons (rC (.fn "program_boxes")) (rCons (rC (.fn "is_plain")) (rCons (rC (.fn "program_step")) (rCons (rC (.fn "shortened")) (rCons (rC (.fn "loops_in")) rNil)))))))) δ S = .ok fnL S := by kernel_rfl
theorem fn_look {d : D} {S : Sto} (hd : NoPr d S) : ∀ x ∈ fnL, ∃ (y : Str) (m : Mir), x = .fn y ∧ fnT.lookup y = some m ∧ m [d] S = .err "BadQuestion" [] S := by
  obtain ⟨_, h1, h2, h3, h4, h5, h6, _⟩ := hd
  intro x hx
  unfold fnL at hx
  rcases List.mem_cons.mp hx with e | hx
  · exact ⟨_, m_need_program, e, by kernel_rfl, h1⟩
  rcases List.mem_cons.mp hx with e | hx
  · exact ⟨_, m_program_boxes, e, by kernel_rfl, h2⟩
  rcases List.mem_cons.mp hx with e | hx
  · exact ⟨_, m_is_plain, e, by kernel_rfl, h3⟩
  rcases List.mem_cons.mp hx with e | hx
  · exact ⟨_, m_program_step, e, by kernel_rfl, h4⟩
  rcases List.mem_cons.mp hx with e | hx
  · exact ⟨_, m_shortened, e, by kernel_rfl, h5⟩
  rcases List.mem_cons.mp hx with e | hx
  · exact ⟨_, m_loops_in, e, by kernel_rfl, h6⟩
  · cases hx
theorem tn2_ok {S : Sto} {d : D} (hd : NoPr d S) (x0 x1 x2 x4 x5 x6 x7 : Option D) : (tn2 [x0, x1, x2, some d, x4, x5, x6, x7] S).post (fun δ1 S' => S' = S ∧ δ1 = [x0, x1, x2, some d, x4, x5, x6, x7]) (fun _ _ => False) NoS NoS := by
  unfold tn2
  walk_at "3"
  refine post_eq hd.1 ?_
  walk_at "3"
  refine lft_eq (a := D.bl false) rfl ?_
  refine ⟨false, rfl, (fun z => nomatch z), fun _ => ?_⟩
  exact s_next ⟨rfl, rfl⟩
theorem tn3_ok {tt : Nat → Addr} {S : Sto} {d : D} (h0 : S[0]? = some (.lam (tt 0) 0 "law.<locals>.<lambda>" [] [])) (hS : Sane S) (hk : m__law_kind [.exc "BadQuestion" []] S = .ok (.lst [.str "question"]) S) (hd : NoPr d S) (x0 x1 x2 x4 x5 x6 x7 : Option D) :
    (tn3 tt [x0, x1, x2, some d, x4, x5, x6, x7] S).post (fun δ1 S' => S' = S ∧ ∃ y4, δ1 = [x0, x1, x2, some d, y4, x5, x6, x7]) (fun _ _ => False) NoS NoS := by
  unfold tn3
  refine s_for ?_
  refine post_eq (fn_run _ _) ?_
  refine s_forL (fun xs δ S' => S' = S ∧ (∀ x ∈ xs, x ∈ fnL) ∧ ∃ y4, δ = [x0, x1, x2, some d, y4, x5, x6, x7]) ?_ ?_ _ _ _ ⟨rfl, fun _ h => h, x4, rfl⟩
  · rintro x xs δ S' ⟨rfl, hx, y4, rfl⟩
    obtain ⟨y, m, rfl, hl, hm⟩ := fn_look hd x (hx x List.mem_cons_self)
    show (sIf _ _ _ [x0, x1, x2, some d, some (.fn y), x5, x6, x7] S').post _ _ _ _
    refine if_lam (ds := [d, .fn y]) (S' := S') h0 ?_ hS ?_ hk List.take_length ?_
    · rfl
    · exact callV_at (ms := fnT) (y := y) (vs := [d]) rfl hl rfl hm
    · exact ⟨rfl, fun z hz => hx z (List.mem_cons_of_mem _ hz), _, rfl⟩
  · rintro δ S' ⟨rfl, _, h⟩
    exact ⟨rfl, h⟩
theorem tn4_ok {tt : Nat → Addr} {S : Sto} {d : D} (h0 : S[0]? = some (.lam (tt 0) 0 "law.<locals>.<lambda>" [] [])) (hS : Sane S) (hk : m__law_kind [.exc "BadQuestion" []] S = .ok (.lst [.str "question"]) S) (hd : NoPr d S) (x0 x1 x2 x4 x5 x6 x7 : Option D) :
    (tn4 tt [x0, x1, x2, some d, x4, x5, x6, x7] S).post (fun δ1 S' => S' = S ∧ δ1 = [x0, x1, x2, some d, x4, x5, x6, x7]) (fun _ _ => False) NoS NoS := by
  unfold tn4
  refine if_lam (ds := [d]) (S' := S) h0 ?_ hS ?_ hk List.take_length ?_
  · rfl
  · exact callM (vs := [d, .non, .non]) rfl hd.2.2.2.2.2.2.2
  · exact ⟨rfl, rfl⟩
theorem pick_ok {ns : List Int} {P : Addr} {a b k : Int} {J : Sto} {X : RE} {δ : Sl} {xs : List D} (hX : X δ (Sx P a b ++ J) = .ok (.lst xs) (Sx P a b ++ J)) (h0 : δ[0]? = some (some (.lst (ns.map .int)))) (h1 : δ[1]? = some (some (.ptr 1))) (hk : k = (xs.length : Int)) (hS : Sane (Sx P a b ++ J)) (ha : 0 ≤ a) (ha2 : a < 1000000) (hb : 0 ≤ b) (k0 : 0 < k) (k1 : k < 1000) :
    (rBin gIx X (rCall m__law_draw (rCons (rVar 0) (rCons (rVar 1) (rCons (rC (.int k)) rNil)))) δ (Sx P a b ++ J)).post (fun d S' => ∃ (n : Nat) (a' b' : Int), n < xs.length ∧ 0 ≤ a' ∧ a' ≤ a + 1 ∧ 0 ≤ b' ∧ d = xs.getD n .non ∧ S' = Sx P a' b' ++ J) := by
  refine p_bin (post_eq hX ?_)
  refine p_call (p_cons (p_var h0 (p_cons (p_var h1 (p_cons (p_c (p_nil ?_)))))))
  refine (draw_spec ns _ 1 a b k hS rfl ha ha2 hb k0 k1).mono ?_
  rintro z S1 ⟨_, _, _, i, a', b', rfl, i0, i1, a0, a1, b0, rfl⟩
  rw [set_sx]
  refine o_ixL (atI_nat i0 (getD_at (by omega))) ?_
  exact ⟨i.toNat, a', b', by omega, a0, a1, b0, rfl, rfl⟩
theorem take_s2 {S : Sto} {d : D} : (S ++ [d]).take S.length = S := by rw [List.take_append_of_le_length (Nat.le_refl _), List.take_length]
theorem s3_eq (P : Addr) (a b v : Int) : S3 P a b (.int v) = S2 P a b ++ [.dct [(.str "a", .int v)]] := by
  unfold S3 S2
  rw [List.append_assoc, List.append_assoc]
theorem num_int : ∀ x ∈ numI, ∃ v : Int, x = .int v := by
  intro x hx
  unfold numI at hx
  rcases List.mem_cons.mp hx with e | hx
  · exact ⟨_, e⟩
  rcases List.mem_cons.mp hx with e | hx
  · exact ⟨_, e⟩
  · cases hx
theorem tn7_ok {tt : Nat → Addr} {a b : Int} {n : Nat} (hn : n < 8) (x0 x1 x2 x3 x4 x6 x7 : Option D) :
    (tn7 tt [x0, x1, x2, x3, x4, some (oddI.getD n .non), x6, x7] (S2 (tt 0) a b)).post (fun δ1 S' => S' = S2 (tt 0) a b ∧ δ1 = [x0, x1, x2, x3, x4, some (oddI.getD n .non), x6, x7]) (fun _ _ => False) NoS NoS := by
  have hs := sane2 (tt 0) a b
  have hk := kind2 (tt 0) a b
  have hr := odd_all n hn (tt 0) a b
  have h0 : (S2 (tt 0) a b)[0]? = some (.lam (tt 0) 0 "law.<locals>.<lambda>" [] []) := rfl
  generalize oddI.getD n .non = d at *
  generalize S2 (tt 0) a b = S at *
  unfold tn7
  refine if_lam (ds := [d]) (S' := S) h0 ?_ hs ?_ hk List.take_length ?_
  · rfl
  · exact callM (vs := [.tup [], d, .int 5]) (by kernel_rfl) hr
  · exact ⟨rfl, rfl⟩
theorem tn9_ok {tt : Nat → Addr} {a b : Int} {n : Nat} (hn : n < 7) (x0 x1 x2 x3 x4 x5 x7 : Option D) :
    (tn9 tt [x0, x1, x2, x3, x4, x5, some (limI.getD n .non), x7] (S2 (tt 0) a b)).post (fun δ1 S' => S' = S2 (tt 0) a b ∧ ∃ y7, δ1 = [x0, x1, x2, x3, x4, x5, some (limI.getD n .non), y7]) (fun _ _ => False) NoS NoS := by
  have hs := sane2 (tt 0) a b
  have hr := fun v : Int => lim_all (tt 0) a b v none none none none none none n hn
  have hk := fun v : Int => kind3 (tt 0) a b v
  have h0 : (S2 (tt 0) a b)[0]? = some (.lam (tt 0) 0 "law.<locals>.<lambda>" [] []) := rfl
  have h3 := fun v : Int => s3_eq (tt 0) a b v
  generalize limI.getD n .non = d at *
  generalize S2 (tt 0) a b = S at *
  unfold tn9
  refine s_for ?_
  refine post_eq (num_run _ _) ?_
  refine s_forL (fun xs δ S' => S' = S ∧ (∀ x ∈ xs, x ∈ numI) ∧ ∃ y7, δ = [x0, x1, x2, x3, x4, x5, some d, y7]) ?_ ?_ _ _ _ ⟨rfl, fun _ h => h, x7, rfl⟩
  · rintro x xs δ S' ⟨rfl, hx, y7, rfl⟩
    obtain ⟨v, rfl⟩ := num_int x (hx x List.mem_cons_self)
    show (sIf _ _ _ [x0, x1, x2, x3, x4, x5, some d, some (.int v)] S').post _ _ _ _
    refine if_lam (ds := [d, .int v]) (S' := S3 (tt 0) a b (.int v)) h0 ?_ hs ?_ (hk v) ?_ ?_
    · rfl
    · exact hr v
    · rw [h3 v]
      exact take_s2
    exact ⟨rfl, fun z hz => hx z (List.mem_cons_of_mem _ hz), _, rfl⟩
  · rintro δ S' ⟨rfl, _, h⟩
    exact ⟨rfl, h⟩
end DL
set_option Elab.async false
set_option linter.all false
set_option maxRecDepth 100000
set_option maxHeartbeats 1000000
set_option autoImplicit false
namespace DL
open PySem L2
local macro_rules | `(tactic| walk_at "1") => `(tactic| with_reducible first
  | refine e_seq ?_ | refine e_asgP ?_ | refine e_if ?_ | refine e_next ?_ | refine e_exprP ?_ | refine s_seq ?_ | refine s_asg ?_ | refine s_ret ?_ | refine s_if ?_ | refine s_expr ?_ | refine s_next ?_ | refine s_brk ?_ | refine s_cont ?_ | refine s_for ?_ | refine s_while ?_
  | refine p_c ?_ | refine p_bin ?_ | refine p_as ?_ | refine p_cons ?_ | refine p_nil ?_ | refine p_un ?_ | refine p_call ?_ | refine p_if ?_ | refine p_own ?_
  | refine p_keep ?_ | refine p_tru ?_ | refine p_and ?_ | refine p_or ?_ | refine p_not ?_ | refine p_val ?_ | refine p_rand ?_ | refine p_ror ?_ | refine p_rnot ?_ | refine p_chain ?_ | refine p_bif ?_
  | refine o_add ?_ | refine o_sub ?_ | refine o_ltU ?_ | refine o_leU ?_ | refine o_gtU ?_ | refine o_geU ?_ | refine o_neg ?_ | refine o_eqI ?_ | refine o_neI ?_ | refine o_abs ?_ | refine o_tru ?_ | refine p_true ?_ | refine p_false ?_
  | refine o_lenT ?_ | refine o_lenL ?_ | refine o_ix0 ?_ | refine o_ix1 ?_ | refine o_ix2 ?_ | refine o_ix0L ?_ | refine o_ix1L ?_ | refine o_ix2L ?_
  | refine s_par ?_ | refine p_yes ?_ | refine p_seq ?_ | refine s_gnil ?_ | refine s_gcons ?_ | refine s_gtux ?_ | refine s_gtupl ?_ | refine p_onone ?_ | refine p_osome ?_ | refine p_get2 ?_ | refine s_putU ?_ | refine p_sortIt ?_)
local macro_rules | `(tactic| walk_at "2") => `(tactic| first
  | walk_at "1"
  | (with_reducible refine p_var2 ?_)
  | ((with_reducible refine s_name ?_ ?_); (· exact Nat.le_of_ble_eq_true rfl); dsimp only [List.set_cons_zero, List.set_cons_succ])
  | (with_reducible refine p_tup ?_) | (with_reducible refine p_lst ?_) | ((with_reducible refine ⟨?_, ?_⟩); (· exact Nat.le_of_ble_eq_true rfl))
  | ((with_reducible refine p_ex2 (x := ?_) (y := ?_) ?_ ?_); rotate_left; rotate_left; (· rfl); refine ⟨?_, ?_, ?_⟩; (· exact Nat.le_of_ble_eq_true rfl); (· exact Nat.le_of_ble_eq_true rfl); dsimp only [List.set_cons_zero, List.set_cons_succ])
  | ((with_reducible refine p_isT ?_ ?_); (· rfl)) | ((with_reducible refine p_isF ?_ ?_); (· rfl))
  | ((with_reducible refine p_ex (x := ?_) ?_ ?_); rotate_left; (· rfl)))
local macro_rules | `(tactic| walk_at "3") => `(tactic| repeat walk_at "2")
/-! ### all turns; the law -/
def Ma (ns : List Int) (P : Addr) (a : Int) (x2 x4 x5 x6 x7 : Option D) (δ1 : Sl) (S1 : Sto) : Prop := ∃ (n : Nat) (a' b' : Int), n < 52 ∧ 0 ≤ a' ∧ a' ≤ a + 1 ∧ 0 ≤ b' ∧ S1 = Sx P a' b' ++ noneJ ∧ δ1 = [some (.lst (ns.map .int)), some (.ptr 1), x2, some (itm n), x4, x5, x6, x7]
def Mb (ns : List Int) (P : Addr) (a : Int) (x2 x3 x4 x6 x7 : Option D) (δ1 : Sl) (S1 : Sto) : Prop := ∃ (n : Nat) (a' b' : Int), n < 8 ∧ 0 ≤ a' ∧ a' ≤ a + 1 ∧ 0 ≤ b' ∧ S1 = S2 P a' b' ∧ δ1 = [some (.lst (ns.map .int)), some (.ptr 1), x2, x3, x4, some (oddI.getD n .non), x6, x7]
def Mc (ns : List Int) (P : Addr) (a : Int) (x2 x3 x4 x5 x7 : Option D) (δ1 : Sl) (S1 : Sto) : Prop := ∃ (n : Nat) (a' b' : Int), n < 7 ∧ 0 ≤ a' ∧ a' ≤ a + 1 ∧ 0 ≤ b' ∧ S1 = S2 P a' b' ∧ δ1 = [some (.lst (ns.map .int)), some (.ptr 1), x2, x3, x4, x5, some (limI.getD n .non), x7]
structure ToldO (o : Out) (N : Sl → Sto → Prop) : Prop where
  p : o.post N (fun _ _ => False) NoS NoS
theorem pickA {ns : List Int} {P : Addr} {a b : Int} {J : Sto} {I : List D} (hs : Sane (Sx P a b ++ J)) (hl : I.length = 8) (ha : 0 ≤ a) (ha2 : a < 2000) (hb : 0 ≤ b) (x2 x3 x4 x6 x7 : Option D) :
    (tn6 [some (.lst (ns.map .int)), some (.ptr 1), x2, x3, x4, some (.lst I), x6, x7] (Sx P a b ++ J)).post (fun δ1 S1 => ∃ (n : Nat) (a' b' : Int), n < 8 ∧ 0 ≤ a' ∧ a' ≤ a + 1 ∧ 0 ≤ b' ∧ S1 = Sx P a' b' ++ J ∧ δ1 = [some (.lst (ns.map .int)), some (.ptr 1), x2, x3, x4, some (I.getD n .non), x6, x7]) (fun _ _ => False) NoS NoS := by
  unfold tn6
  refine s_asg ?_
  have h := pick_ok (ns := ns) (P := P) (a := a) (b := b) (J := J) (X := rVar 5) (δ := [some (.lst (ns.map .int)), some (.ptr 1), x2, x3, x4, some (.lst I), x6, x7]) (xs := I) (k := 8) rfl rfl rfl (by rw [hl]; rfl) hs ha (by omega) hb (by decide) (by decide)
  refine h.mono ?_
  rintro d S' ⟨n, a', b', hn, a0, a1, b0, rfl, rfl⟩
  rw [hl] at hn
  exact ⟨n, a', b', hn, a0, a1, b0, rfl, rfl⟩
theorem pickB {ns : List Int} {P : Addr} {a b : Int} {J : Sto} {I : List D} {X : RE} {δ : Sl} (hX : X δ (Sx P a b ++ J) = .ok (.lst I) (Sx P a b ++ J)) (hs : Sane (Sx P a b ++ J)) (hl : I.length = 7) (ha : 0 ≤ a) (ha2 : a < 2000) (hb : 0 ≤ b) (x2 x3 x4 x5 x6 x7 : Option D) (hδ : δ = [some (.lst (ns.map .int)), some (.ptr 1), x2, x3, x4, x5, x6, x7]) :
    ((sAsg (rBin gIx X (rCall m__law_draw (rCons (rVar 0) (rCons (rVar 1) (rCons (rC (.int 7)) rNil))))) (gName 6)) δ (Sx P a b ++ J)).post (fun δ1 S1 => ∃ (n : Nat) (a' b' : Int), n < 7 ∧ 0 ≤ a' ∧ a' ≤ a + 1 ∧ 0 ≤ b' ∧ S1 = Sx P a' b' ++ J ∧ δ1 = [some (.lst (ns.map .int)), some (.ptr 1), x2, x3, x4, x5, some (I.getD n .non), x7]) (fun _ _ => False) NoS NoS := by
  subst hδ
  refine s_asg ?_
  have h := pick_ok (ns := ns) (P := P) (a := a) (b := b) (J := J) (X := X) (δ := [some (.lst (ns.map .int)), some (.ptr 1), x2, x3, x4, x5, x6, x7]) (xs := I) (k := 7) hX rfl rfl (by rw [hl]; rfl) hs ha (by omega) hb (by decide) (by decide)
  refine h.mono ?_
  rintro d S' ⟨n, a', b', hn, a0, a1, b0, rfl, rfl⟩
  rw [hl] at hn
  exact ⟨n, a', b', hn, a0, a1, b0, rfl, rfl⟩
theorem odd_pick {ns : List Int} {P : Addr} {a b : Int} (ha : 0 ≤ a) (ha2 : a < 2000) (hb : 0 ≤ b) (x2 x3 x4 x6 x7 : Option D) : (tn6 [some (.lst (ns.map .int)), some (.ptr 1), x2, x3, x4, some (.lst oddI), x6, x7] (S2 P a b)).post (Mb ns P a x2 x3 x4 x6 x7) (fun _ _ => False) NoS NoS := by
  have hs : Sane (Sx P a b ++ (noneJ ++ oddJ)) := sane2 P a b
  exact pickA hs odd_len ha ha2 hb x2 x3 x4 x6 x7
theorem lim_len : limI.length = 7 := rfl
theorem lim_pick {ns : List Int} {P : Addr} {a b : Int} (ha : 0 ≤ a) (ha2 : a < 2000) (hb : 0 ≤ b) (x2 x3 x4 x5 x6 x7 : Option D) : (tn8 [some (.lst (ns.map .int)), some (.ptr 1), x2, x3, x4, x5, x6, x7] (S2 P a b)).post (Mc ns P a x2 x3 x4 x5 x7) (fun _ _ => False) NoS NoS := by
  have hs : Sane (Sx P a b ++ (noneJ ++ oddJ)) := sane2 P a b
  exact pickB (lim_run _ _) hs lim_len ha ha2 hb x2 x3 x4 x5 x6 x7 rfl
theorem s_step {s r : RS} {δ : Sl} {S : Sto} {M N : Sl → Sto → Prop} {T : D → Sto → Prop} {B C : Sl → Sto → Prop} (h : (s δ S).post M (fun _ _ => False) NoS NoS) (g : ∀ δ1 S1, M δ1 S1 → (r δ1 S1).post N T B C) : (sSeq s r δ S).post N T B C :=
  s_seq (h.mono g (fun _ _ z => z.elim) (fun _ _ z => z.elim) (fun _ _ z => z.elim))
theorem s_stepT {s r : RS} {δ : Sl} {S : Sto} {M N : Sl → Sto → Prop} {T : D → Sto → Prop} {B C : Sl → Sto → Prop} (h : ToldO (s δ S) M) (g : ∀ δ1 S1, M δ1 S1 → (r δ1 S1).post N T B C) : (sSeq s r δ S).post N T B C := s_step h.p g
theorem tn1_gen {m : Mir} {x0 x1 : D} {S0 : Sto} {Q : D → Sto → Prop} {M : Sl → Sto → Prop} (x2 x3 x4 x5 x6 x7 : Option D) (h : Told (m [x0, x1] S0) Q) (g : ∀ d S1, Q d S1 → M [some x0, some x1, x2, some d, x4, x5, x6, x7] S1) : ToldO ((sAsg (rCall m (rCons (rVar 0) (rCons (rVar 1) rNil))) (gName 3)) [some x0, some x1, x2, x3, x4, x5, x6, x7] S0) M := by
  refine ⟨?_⟩
  obtain ⟨h⟩ := h
  walk_at "3"
  refine h.mono ?_
  intro d S1 hd
  walk_at "3"
  exact g d S1 hd
theorem tn1_ok (ns : List Int) (P : Addr) (a b : Int) (ha : 0 ≤ a) (ha2 : a < 1000000) (hb : 0 ≤ b) (x2 x3 x4 x5 x6 x7 : Option D) : ToldO (tn1 [some (.lst (ns.map .int)), some (.ptr 1), x2, x3, x4, x5, x6, x7] (Sx P a b)) (Ma ns P a x2 x4 x5 x6 x7) := by
  unfold tn1
  have g := none_spec ns P a b ha ha2 hb
  with_reducible refine tn1_gen (m := m__law_none) x2 x3 x4 x5 x6 x7 g ?_
  intro d S' hd
  obtain ⟨n, a', b', hn, a0, a1, b0, e1, e2⟩ := hd
  rw [e1, e2]
  exact ⟨n, a', b', hn, a0, a1, b0, rfl, rfl⟩
theorem seqs_cons (s : RS) (r : List RS) (z : RS) : seqs (s :: r) z = sSeq s (seqs r z) := by unfold seqs; cases r <;> rfl
theorem seqs_nil (z : RS) : seqs [] z = z := by unfold seqs; rfl
theorem tnR_eq (tt : Nat → Addr) : tnR tt = sSeq tn1 (sSeq tn2 (sSeq (tn3 tt) (sSeq (tn4 tt) (sSeq tn5 (sSeq tn6 (sSeq (tn7 tt) (sSeq tn8 (tn9 tt)))))))) := by
  unfold tnR
  rw [seqs_cons, seqs_cons, seqs_cons, seqs_cons, seqs_cons, seqs_cons, seqs_cons, seqs_cons, seqs_nil]
theorem turn_two (ns : List Int) (tt : Nat → Addr) (a1 b1 : Int) (g0 : 0 ≤ a1) (g1 : a1 < 1100) (g2 : 0 ≤ b1) (x2 x3 x4 x6 x7 : Option D) {N : Sl → Sto → Prop}
    (q : ∀ δ1 S1, (∃ (y5 y6 y7 : Option D) (a' b' : Int) (J : Sto), δ1 = [some (.lst (ns.map .int)), some (.ptr 1), x2, x3, x4, y5, y6, y7] ∧ 0 ≤ a' ∧ a' ≤ a1 + 2 ∧ 0 ≤ b' ∧ S1 = Sx (tt 0) a' b' ++ J) → N δ1 S1) :
    (sSeq tn6 (sSeq (tn7 tt) (sSeq tn8 (tn9 tt))) [some (.lst (ns.map .int)), some (.ptr 1), x2, x3, x4, some (.lst oddI), x6, x7] (S2 (tt 0) a1 b1)).post N (fun _ _ => False) NoS NoS := by
  with_reducible refine s_step (odd_pick g0 (by omega) g2 _ _ _ _ _) ?_
  intro δ1 S1 hm
  obtain ⟨n2, a2, b2, hn2, k0, k1, k2, e1, e2⟩ := hm
  rw [e1, e2]
  clear e1 e2
  with_reducible refine s_step (tn7_ok hn2 _ _ _ _ _ _ _) ?_
  intro δ1 S1 hm
  rw [hm.1, hm.2]
  generalize oddI.getD n2 .non = d2
  with_reducible refine s_step (lim_pick k0 (by omega) k2 _ _ _ _ _ _) ?_
  intro δ1 S1 hm
  obtain ⟨n3, a3, b3, hn3, m0, m1, m2, e1, e2⟩ := hm
  rw [e1, e2]
  clear e1 e2
  with_reducible refine (tn9_ok hn3 _ _ _ _ _ _ _).mono ?_ (fun _ _ z => z) (fun _ _ z => z) (fun _ _ z => z)
  intro δ1 S1 hm
  obtain ⟨e1, y7, e2⟩ := hm
  rw [e1, e2]
  exact q _ _ ⟨_, _, _, a3, b3, _, rfl, m0, by omega, m2, rfl⟩
theorem turn_ok (ns : List Int) (tt : Nat → Addr) (a b : Int) (ha : 0 ≤ a) (ha2 : a < 1000) (hb : 0 ≤ b) (x2 x3 x4 x5 x6 x7 : Option D) :
    (tnR tt [some (.lst (ns.map .int)), some (.ptr 1), x2, x3, x4, x5, x6, x7] (Sx (tt 0) a b)).post (fun δ1 S1 => ∃ (y2 y3 y4 y5 y6 y7 : Option D) (a' b' : Int) (J : Sto), δ1 = [some (.lst (ns.map .int)), some (.ptr 1), y2, y3, y4, y5, y6, y7] ∧ 0 ≤ a' ∧ a' ≤ a + 3 ∧ 0 ≤ b' ∧ S1 = Sx (tt 0) a' b' ++ J) (fun _ _ => False) NoS NoS := by
  rw [tnR_eq]
  with_reducible refine s_stepT (tn1_ok ns (tt 0) a b ha (by omega) hb x2 x3 x4 x5 x6 x7) ?_
  intro δ1 S1 hm
  obtain ⟨n, a1, b1, hn, g0, g1, g2, e1, e2⟩ := hm
  rw [e1, e2]
  clear e1 e2
  have hd := it_all n hn (tt 0) a1 b1
  have hs := none_s (tt 0) a1 b1
  have hk := kind1 (tt 0) a1 b1
  have h0 : (Sx (tt 0) a1 b1 ++ noneJ)[0]? = some (.lam (tt 0) 0 "law.<locals>.<lambda>" [] []) := rfl
  have ho := fun x0 x1 x2 x3 x4 x5 x6 x7 => odd_run x0 x1 x2 x3 x4 x5 x6 x7 (tt 0) a1 b1
  have hk : m__law_kind [.exc "BadQuestion" []] (Sx (tt 0) a1 b1 ++ noneJ) = .ok (.lst [.str "question"]) (Sx (tt 0) a1 b1 ++ noneJ) := hk
  have ho : ∀ (x0 x1 x2 x3 x4 x5 x6 x7 : Option D), tn5 [x0, x1, x2, x3, x4, x5, x6, x7] (Sx (tt 0) a1 b1 ++ noneJ) = .nx [x0, x1, x2, x3, x4, some (.lst oddI), x6, x7] (S2 (tt 0) a1 b1) := ho
  have hd : NoPr (itm n) (Sx (tt 0) a1 b1 ++ noneJ) := hd
  generalize itm n = d at hd ⊢
  generalize Sx (tt 0) a1 b1 ++ noneJ = W at hd hs hk h0 ho ⊢
  refine s_step (tn2_ok hd _ _ _ _ _ _ _) ?_
  rintro δ1 S1 ⟨rfl, rfl⟩
  refine s_step (tn3_ok h0 hs hk hd _ _ _ _ _ _ _) ?_
  rintro δ1 S1 ⟨rfl, y4, rfl⟩
  refine s_step (tn4_ok h0 hs hk hd _ _ _ _ _ _ _) ?_
  rintro δ1 S1 ⟨rfl, rfl⟩
  refine s_step (M := fun δ1 S1 => S1 = S2 (tt 0) a1 b1 ∧ δ1 = [some (.lst (ns.map .int)), some (.ptr 1), x2, some d, y4, some (.lst oddI), x6, x7]) ?_ ?_
  · rw [ho]
    exact ⟨rfl, rfl⟩
  clear ho h0 hk hs hd
  intro δ1 S1 hm
  rw [hm.1, hm.2]
  exact turn_two ns tt a1 b1 g0 (by omega) g2 _ _ _ _ _ fun δ1 S1 ⟨y5, y6, y7, a3, b3, J, e1, h1, h2, h3, e2⟩ => ⟨_, _, _, _, _, _, a3, b3, J, e1, h1, by omega, h3, e2⟩
end DL
set_option Elab.async false
set_option linter.all false
set_option maxRecDepth 100000
set_option maxHeartbeats 1000000
set_option autoImplicit false
namespace DL
open PySem L2
local macro_rules | `(tactic| walk_at "1") => `(tactic| with_reducible first
  | refine e_seq ?_ | refine e_asgP ?_ | refine e_if ?_ | refine e_next ?_ | refine e_exprP ?_ | refine s_seq ?_ | refine s_asg ?_ | refine s_ret ?_ | refine s_if ?_ | refine s_expr ?_ | refine s_next ?_ | refine s_brk ?_ | refine s_cont ?_ | refine s_for ?_ | refine s_while ?_
  | refine p_c ?_ | refine p_bin ?_ | refine p_as ?_ | refine p_cons ?_ | refine p_nil ?_ | refine p_un ?_ | refine p_call ?_ | refine p_if ?_ | refine p_own ?_
  | refine p_keep ?_ | refine p_tru ?_ | refine p_and ?_ | refine p_or ?_ | refine p_not ?_ | refine p_val ?_ | refine p_rand ?_ | refine p_ror ?_ | refine p_rnot ?_ | refine p_chain ?_ | refine p_bif ?_
  | refine o_add ?_ | refine o_sub ?_ | refine o_ltU ?_ | refine o_leU ?_ | refine o_gtU ?_ | refine o_geU ?_ | refine o_neg ?_ | refine o_eqI ?_ | refine o_neI ?_ | refine o_abs ?_ | refine o_tru ?_ | refine p_true ?_ | refine p_false ?_
  | refine o_lenT ?_ | refine o_lenL ?_ | refine o_ix0 ?_ | refine o_ix1 ?_ | refine o_ix2 ?_ | refine o_ix0L ?_ | refine o_ix1L ?_ | refine o_ix2L ?_
  | refine s_par ?_ | refine p_yes ?_ | refine p_seq ?_ | refine s_gnil ?_ | refine s_gcons ?_ | refine s_gtux ?_ | refine s_gtupl ?_ | refine p_onone ?_ | refine p_osome ?_ | refine p_get2 ?_ | refine s_putU ?_ | refine p_sortIt ?_)
local macro_rules | `(tactic| walk_at "2") => `(tactic| first
  | walk_at "1"
  | (with_reducible refine p_var2 ?_)
  | ((with_reducible refine s_name ?_ ?_); (· exact Nat.le_of_ble_eq_true rfl); dsimp only [List.set_cons_zero, List.set_cons_succ])
  | (with_reducible refine p_tup ?_) | (with_reducible refine p_lst ?_) | ((with_reducible refine ⟨?_, ?_⟩); (· exact Nat.le_of_ble_eq_true rfl))
  | ((with_reducible refine p_ex2 (x := ?_) (y := ?_) ?_ ?_); rotate_left; rotate_left; (· rfl); refine ⟨?_, ?_, ?_⟩; (· exact Nat.le_of_ble_eq_true rfl); (· exact Nat.le_of_ble_eq_true rfl); dsimp only [List.set_cons_zero, List.set_cons_succ])
  | ((with_reducible refine p_isT ?_ ?_); (· rfl)) | ((with_reducible refine p_isF ?_ ?_); (· rfl))
  | ((with_reducible refine p_ex (x := ?_) ?_ ?_); rotate_left; (· rfl)))
local macro_rules | `(tactic| walk_at "3") => `(tactic| repeat walk_at "2")
/-! all turns -/
theorem s_local {b : RS} {δ : Sl} {S : Sto} {N : Sl → Sto → Prop} {T : D → Sto → Prop} {B C : Sl → Sto → Prop} (h : (b δ S).post (fun δ1 S1 => closedL S.length (S1.take S.length) = true ∧ N (dropSl S.length δ1) (S1.take S.length)) (fun _ _ => False) NoS NoS) : (sLocal b δ S).post N T B C := by
  unfold sLocal
  cases e : b δ S with
  | nx δ1 S1 =>
    rw [e] at h
    dsimp only
    rw [if_pos h.1]
    exact h.2
  | rt d S1 => rw [e] at h; exact h.elim
  | bk δ1 S1 => rw [e] at h; exact h.elim
  | ct δ1 S1 => rw [e] at h; exact h.elim
  | err c fs δ1 S1 => rw [e] at h; exact h.elim
  | stuck => rw [e] at h; exact h.elim
def drp (n : Nat) (o : Option D) : Option D := match o with
  | some d => if D.closed n d then some d else none
  | none => none
theorem drop_map (n : Nat) (δ : Sl) : dropSl n δ = δ.map (drp n) := rfl
theorem drop_eq (ns : List Int) (y2 y3 y4 y5 y6 y7 : Option D) : dropSl 2 [some (.lst (ns.map .int)), some (.ptr 1), y2, y3, y4, y5, y6, y7] = [some (.lst (ns.map .int)), some (.ptr 1), drp 2 y2, drp 2 y3, drp 2 y4, drp 2 y5, drp 2 y6, drp 2 y7] := by
  have e : drp 2 (some (.lst (ns.map .int))) = some (.lst (ns.map .int)) := by
    show (if D.closed 2 (.lst (ns.map .int)) then some (D.lst (ns.map .int)) else none) = _
    rw [if_pos (show D.closed 2 (.lst (ns.map .int)) = true from by unfold D.closed; exact closed_ints)]
  rw [drop_map]
  simp only [List.map_cons, List.map_nil]
  rw [e]
  rfl
theorem rng_ok (ns : List Int) (hn : ns.length ≤ 63) (δ : Sl) (S : Sto) (h : δ[0]? = some (some (.lst (ns.map .int)))) : (rngA δ S).post fun xs S1 => S1 = S ∧ xs.length ≤ 40 := by
  unfold rngA
  with_reducible refine p_range1 ?_
  obtain ⟨L, hL⟩ : ∃ L : Int, L = ((ns.map D.int).length : Int) := ⟨_, rfl⟩
  have hb : L ≤ 63 ∧ 0 ≤ L := by rw [hL, List.length_map]; omega
  walk_at "3"
  refine ⟨_, h, ?_⟩
  walk_at "3"
  rw [← hL]
  refine p_lift (a := .int (if L > 3 then L else 3)) rfl ?_
  walk_at "3"
  refine p_lift (a := .int (if (if L > 3 then L else 3) < 40 then (if L > 3 then L else 3) else 40)) rfl ?_
  walk_at "3"
  have hx : (if (if L > 3 then L else 3) < 40 then (if L > 3 then L else 3) else 40) ≤ 40 ∧ 0 ≤ (if (if L > 3 then L else 3) < 40 then (if L > 3 then L else 3) else 40) := by
    split <;> split <;> omega
  generalize (if (if L > 3 then L else 3) < 40 then (if L > 3 then L else 3) else 40 : Int) = j at *
  refine ⟨by omega, by omega, rfl, ?_⟩
  unfold rangeD
  rw [List.length_map, List.length_range]
  omega
theorem m_def1 {n : Nat} {b : RS} {ds : List D} {S : Sto} {l : Nat} (hl : S.length = l) (h : (b (ds.map some ++ List.replicate (n - ds.length) none) S).post NoS (fun z S1 => z = .bl true ∧ closedL l (S1.take l) = true ∧ (S1.take l).length = l) NoS NoS) : ∃ S', mDef n b ds S = .ok (.bl true) S' := by
  subst hl
  unfold mDef
  cases e : b (ds.map some ++ List.replicate (n - ds.length) none) S with
  | rt d S1 =>
    rw [e] at h
    obtain ⟨rfl, h2, _⟩ := h
    refine ⟨S1.take S.length, ?_⟩
    dsimp only
    rw [h2]
    rfl
  | nx δ1 S1 => rw [e] at h; exact h.elim
  | bk δ1 S1 => rw [e] at h; exact h.elim
  | ct δ1 S1 => rw [e] at h; exact h.elim
  | err c fs δ1 S1 => rw [e] at h; exact h.elim
  | stuck => rw [e] at h; exact h.elim
theorem name_2 {x : D} {x0 x1 y2 y3 y4 y5 y6 y7 : Option D} {S : Sto} {Q : Sl → Sto → Prop} (h : Q [x0, x1, some x, y3, y4, y5, y6, y7] S) : (gName 2 x [x0, x1, y2, y3, y4, y5, y6, y7] S).post Q := h
theorem loop_ok (ns : List Int) (tt : Nat → Addr) (xs : List D) (hx : xs.length ≤ 40) : (forL (gName 2) (sLocal (tnR tt)) xs [some (.lst (ns.map .int)), some (.ptr 1), none, none, none, none, none, none] (Sx (tt 0) 0 0)).post (fun δ1 S1 => (rsR δ1 S1).post NoS (fun z S1 => z = .bl true ∧ closedL 1 (S1.take 1) = true ∧ (S1.take 1).length = 1) NoS NoS) (fun z S1 => z = .bl true ∧ closedL 1 (S1.take 1) = true ∧ (S1.take 1).length = 1) NoS NoS := by
  refine s_forL (fun xs δ S => ∃ (y2 y3 y4 y5 y6 y7 : Option D) (a b : Int), δ = [some (.lst (ns.map .int)), some (.ptr 1), y2, y3, y4, y5, y6, y7] ∧ S = Sx (tt 0) a b ∧ 0 ≤ a ∧ a + 3 * (xs.length : Int) ≤ 120 ∧ 0 ≤ b) ?_ ?_ _ _ _ ⟨none, none, none, none, none, none, 0, 0, rfl, rfl, by decide, by omega, by decide⟩
  · intro x xs δ S hm
    obtain ⟨y2, y3, y4, y5, y6, y7, a, b, e1, e2, h1, h2, h3⟩ := hm
    rw [e1, e2]
    rw [List.length_cons] at h2
    with_reducible refine name_2 ?_
    with_reducible refine s_local ?_
    with_reducible refine (turn_ok ns tt a b h1 (by omega) h3 _ _ _ _ _ _).mono ?_ (fun _ _ z => z.elim) (fun _ _ z => z.elim) (fun _ _ z => z.elim)
    intro δ1 S1 hm
    obtain ⟨z2, z3, z4, z5, z6, z7, a', b', J, e1, g0, g1, g2, e2⟩ := hm
    rw [e1, e2]
    exact ⟨rfl, _, _, _, _, _, _, a', b', drop_eq ns z2 z3 z4 z5 z6 z7, rfl, g0, by omega, g2⟩
  · intro δ S hm
    obtain ⟨y2, y3, y4, y5, y6, y7, a, b, e1, e2, h1, h2, h3⟩ := hm
    rw [e1, e2]
    exact rsR_ok _ _ _ _ _ _ _ _ _ _
theorem law_spec (cs : List (Addr × Addr)) (ns : List Int) (hc : cs.length = 1) (hn : ns.length ≤ 63) : ∃ S, m_law (fun j => (tbs cs).getD j 0) [.lst (ns.map .int)] (cells cs ["law.<locals>.<lambda>"]) = .ok (.bl true) S := by
  obtain ⟨c0, rfl⟩ : ∃ c0, cs = [c0] := by
    match cs, hc with
    | [a], _ => exact ⟨a, rfl⟩
  obtain ⟨tt, htt⟩ : ∃ tt : Nat → Addr, tt = fun j => (tbs [c0]).getD j 0 := ⟨_, rfl⟩
  rw [← htt]
  have eC : cells [c0] ["law.<locals>.<lambda>"] = [.lam (tt 0) 0 "law.<locals>.<lambda>" [] []] := by rw [htt]; rfl
  rw [eC]
  unfold m_law
  refine m_def1 (l := 1) rfl ?_
  show (b_law tt [some (.lst (ns.map .int)), none, none, none, none, none, none, none] [.lam (tt 0) 0 "law.<locals>.<lambda>" [] []]).post _ _ _ _
  rw [law_eq]
  walk_at "3"
  show (rngA [some (.lst (ns.map .int)), some (.ptr 1), none, none, none, none, none, none] (Sx (tt 0) 0 0)).post _
  with_reducible refine (rng_ok ns hn _ _ rfl).mono ?_
  intro xs S1 hm
  rw [hm.1]
  have hx := hm.2
  clear hm
  exact loop_ok ns tt xs hx
end DL
open PySem PySem.W PyProof.Rows
theorem PySem.Challenge.cw_roundless_k79_programs_refused_holds : PySem.Challenge.rw_roundless_k79_programs_refused.Holds := by
  exact DL.holds_of fun cs ns h1 h2 => DL.law_spec cs ns h1 h2
