import PyProof.Rows.All
import Wide.All
import OpenK.AllK
import Wide.FinOn
import HandS.ForMost
import HandS.ForExc
import HandS.Flow
import HandS.IsInst
import HandS.Wide
import KE.KeyNested
import HandS.TupAny
import HandS.Lambda
import HandS.Style
import KE.IntBitsLaws
import HandS.NoneIn
import HandS.StrMore
import HandS.RaiseMore
import PyProof.ListStr
import HandS.More
import HandS.Conv
import HandS.HeadHook2
import HandS.HeadEnd
import HandS.Head0
import HandS.Head1
import HandS.Head2
import HandS.Ends
import PyProof.DictRoadsH
import KE.KDictPairs
import KE.KDictWalk
import KE.DataCmp
import KE.SortData
import HandS.DictTup
import HandS.SetTxt0
import HandS.SetFor
import HandS.TupSets
import KE.KRevSl
import HandS.Zip
import PyProof.Rows.Digits
import PyProof.ReprReads
import KE.KEqDict
import HandS.Finally
import HandS.SortInts
import KE.GoesEnum
import PyProof.Rows.SeqMore
import KE.IntTextLaws
import PyProof.StrLawsRepr
import PyProof.ReprText
import KE.GoesMore
import KE.GoesZip
import HandS.TupLen
import KE.KDictDisplayH
import PySem.Challenge.RW_roundless_k29_squares_and_polys
import KE.KStateDown
import HandS.HeadHook1
set_option Elab.async false
set_option linter.all false
set_option maxRecDepth 100000
set_option maxHeartbeats 4000000
/-! Data layer, first part: data, results, mirrors of expressions and statements (plain Lean). -/
namespace DL
open PySem PySem.Spec PyProof.Rows L2
/-- a thing as data: what is never changed stands as a whole, what may be changed stands by its number in the store -/
inductive D where
  | non | bl (b : Bool) | int (i : Int) | str (x : Str)
  | tup (xs : List D) | lst (xs : List D) | dct (kvs : List (D × D)) | dcn (kvs : List (D × D))
  | ptr (k : Nat) | fn (x : Str) | ty (n : String) | lck (d : D) | tux (xs : List D) | exc (c : Str) (fs : List (D × D)) | dc0 (d : D)
  | lam (f c : Addr) (q : Str) (vs : List V) (ds : List D)
  deriving Inhabited
abbrev Sl := List (Option D)
abbrev Sto := List D
inductive Res (A : Type) where
  | ok (a : A) (S : Sto)
  | err (c : Str) (fs : List (Str × D)) (S : Sto)
  | stuck
abbrev RE := Sl → Sto → Res D
abbrev RB := Sl → Sto → Res Bool
abbrev RA := Sl → Sto → Res (List D)
abbrev RG := D → Sl → Sto → Res Sl
abbrev Mir := List D → Sto → Res D
inductive Out where
  | nx (δ : Sl) (S : Sto) | rt (d : D) (S : Sto) | bk (δ : Sl) (S : Sto) | ct (δ : Sl) (S : Sto)
  | err (c : Str) (fs : List (Str × D)) (δ : Sl) (S : Sto) | stuck
abbrev RS := Sl → Sto → Out
def Res.bind {A B : Type} (r : Res A) (f : A → Sto → Res B) : Res B := match r with
  | .ok a S => f a S
  | .err c fs S => .err c fs S
  | .stuck => .stuck
def Res.out (δ : Sl) {A : Type} (r : Res A) (f : A → Sto → Out) : Out := match r with
  | .ok a S => f a S
  | .err c fs S => .err c fs δ S
  | .stuck => .stuck
def Res.lift {A : Type} (o : Option A) (S : Sto) : Res A := match o with
  | some a => .ok a S
  | none => .stuck
def deref (S : Sto) : D → D
  | .ptr k => match S.getD k .non with
    | .non => .ptr k
    | .lam _ _ _ _ _ => .ptr k
    | .lck d => d
    | d => d
  | d => d
/-! expressions -/
def rVar (i : Nat) : RE := fun δ S => match δ[i]? with
  | some (some d) => .ok d S
  | _ => .stuck
def rC (d : D) : RE := fun _ S => .ok d S
def rUn (g : Sto → D → Option D) (a : RE) : RE := fun δ S => (a δ S).bind fun x S1 => .lift (g S1 x) S1
def rBin (g : Sto → D → D → Option D) (a b : RE) : RE := fun δ S => (a δ S).bind fun x S1 => (b δ S1).bind fun y S2 => .lift (g S2 x y) S2
def rAs (g : Sto → List D → Option D) (a : RA) : RE := fun δ S => (a δ S).bind fun x S1 => .lift (g S1 x) S1
def rNil : RA := fun _ S => .ok [] S
def rCons (a : RE) (b : RA) : RA := fun δ S => (a δ S).bind fun x S1 => (b δ S1).bind fun ys S2 => .ok (x :: ys) S2
def rCall (m : Mir) (a : RA) : RE := fun δ S => (a δ S).bind m
def rIf (c : RB) (a b : RE) : RE := fun δ S => (c δ S).bind fun k S1 => if k then a δ S1 else b δ S1
def rOwn (a : RE) : RE := fun δ S => (a δ S).bind fun d S1 => .ok (.ptr S1.length) (S1 ++ [d])
def rTup (a : RA) : RE := fun δ S => (a δ S).bind fun xs S1 => if xs.length ≤ sizeLine then .ok (.tup xs) S1 else .stuck
def rLst (a : RA) : RE := fun δ S => (a δ S).bind fun xs S1 => if xs.length ≤ sizeLine then .ok (.lst xs) S1 else .stuck
def truth (S : Sto) (d : D) : Option Bool := match deref S d with
  | .non => some false
  | .bl b => some b
  | .int i => some (i != 0)
  | .str y => if y.length ≤ sizeLine then some ((y.length : Int) != 0) else none
  | .tup xs => some (!xs.isEmpty)
  | .lst xs => some (!xs.isEmpty)
  | _ => none
/-! tests -/
def bTru (a : RE) : RB := fun δ S => (a δ S).bind fun x S1 => .lift (truth S1 x) S1
def bAnd (a b : RB) : RB := fun δ S => (a δ S).bind fun k S1 => if k then b δ S1 else .ok false S1
def bOr (a b : RB) : RB := fun δ S => (a δ S).bind fun k S1 => if k then .ok true S1 else b δ S1
def bNot (a : RB) : RB := fun δ S => (a δ S).bind fun k S1 => .ok (!k) S1
/-! and, or, not as values -/
def rAnd (a b : RE) : RE := fun δ S => (a δ S).bind fun x S1 => (Res.lift (truth S1 x) S1).bind fun k S2 => if k then b δ S2 else .ok x S2
def rOr (a b : RE) : RE := fun δ S => (a δ S).bind fun x S1 => (Res.lift (truth S1 x) S1).bind fun k S2 => if k then .ok x S2 else b δ S2
def rNot (a : RE) : RE := fun δ S => (a δ S).bind fun x S1 => (Res.lift (truth S1 x) S1).bind fun k S2 => .ok (.bl (!k)) S2
/-! targets -/
def gName (i : Nat) : RG := fun d δ S => if i < δ.length then .ok (δ.set i (some d)) S else .stuck
def gNil : List D → Sl → Sto → Res Sl := fun ds δ S => match ds with
  | [] => .ok δ S
  | _ => .stuck
def gCons (g : RG) (u : List D → Sl → Sto → Res Sl) : List D → Sl → Sto → Res Sl := fun ds δ S => match ds with
  | d :: r => (g d δ S).bind fun δ1 S1 => u r δ1 S1
  | [] => .stuck
def gTup (u : List D → Sl → Sto → Res Sl) : RG := fun d δ S => match deref S d with
  | .tup ds => u ds δ S
  | .tux ds => u ds δ S
  | _ => .stuck
/-! statements -/
def sNext : RS := fun δ S => .nx δ S
def sSeq (a b : RS) : RS := fun δ S => match a δ S with
  | .nx δ1 S1 => b δ1 S1
  | o => o
def sAsg (e : RE) (g : RG) : RS := fun δ S => (e δ S).out δ fun d S1 => (g d δ S1).out δ fun δ1 S2 => .nx δ1 S2
def sExpr (e : RE) : RS := fun δ S => (e δ S).out δ fun _ S1 => .nx δ S1
def sRet (e : RE) : RS := fun δ S => (e δ S).out δ fun d S1 => .rt d S1
def sIf (c : RB) (a b : RS) : RS := fun δ S => (c δ S).out δ fun k S1 => if k then a δ S1 else b δ S1
def sBreak : RS := fun δ S => .bk δ S
def sCont : RS := fun δ S => .ct δ S
def forL (g : RG) (b : RS) : List D → RS
  | [], δ, S => .nx δ S
  | x :: xs, δ, S => (g x δ S).out δ fun δ1 S1 => match b δ1 S1 with
    | .nx δ2 S2 => forL g b xs δ2 S2
    | .ct δ2 S2 => forL g b xs δ2 S2
    | .bk δ2 S2 => .nx δ2 S2
    | o => o
def sFor (it : RA) (g : RG) (b : RS) : RS := fun δ S => (it δ S).out δ fun xs S1 => forL g b xs δ S1
def whileL (c : RB) (b : RS) : Nat → RS
  | 0, _, _ => .stuck
  | n + 1, δ, S => (c δ S).out δ fun k S1 => if k then (match b δ S1 with
    | .nx δ2 S2 => whileL c b n δ2 S2
    | .ct δ2 S2 => whileL c b n δ2 S2
    | .bk δ2 S2 => .nx δ2 S2
    | o => o) else .nx δ S1
def sWhile (fuel : Sl → Sto → Nat) (c : RB) (b : RS) : RS := fun δ S => whileL c b (fuel δ S) δ S
/-- the turns of a list comprehension; δ: the slots without its own names -/
def lcL (g : RG) (t : RB) (e : RE) : List D → Sl → Sto → Res (List D)
  | [], _, S => .ok [] S
  | x :: xs, δ, S => (g x δ S).bind fun δ1 S1 => (t δ1 S1).bind fun k S2 =>
    if k then (e δ1 S2).bind fun y S3 => (lcL g t e xs δ S3).bind fun ys S4 => .ok (y :: ys) S4 else lcL g t e xs δ S2
def wipeD (δ : Sl) : List Nat → Sl
  | [] => δ
  | v :: vs => (wipeD δ vs).set v none
def noErr {A : Type} (r : Res A) : Res A := match r with
  | .err _ _ _ => .stuck
  | r => r
def bYes : RB := fun _ S => .ok true S
def rLc (it : RA) (g : RG) (vs : List Nat) (t : RB) (e : RE) : RE := fun δ S => (it δ S).bind fun xs S1 =>
  (noErr (lcL g t e xs (wipeD δ vs) S1)).bind fun ys S2 => if ys.length ≤ sizeLine then .ok (.lst ys) S2 else .stuck
/-! keys of any depth -/
mutual
def keyN : D → Option NestedKey
  | .non => some .none
  | .bl b => some (.num (if b = true then 1 else 0))
  | .int i => some (.num i)
  | .str x => some (.text x)
  | .tup xs => (keyNs xs).map .tup
  | _ => none
def keyNs : List D → Option (List NestedKey)
  | [] => some []
  | d :: r => match keyN d, keyNs r with
    | some k, some ks => some (k :: ks)
    | _, _ => none
end
/-- a tuple that may be a key -/
def isKeyN (d : D) : Bool := match d with
  | .tup _ => (match keyN d with
    | some k => decide (k.depth ≤ 8)
    | none => false)
  | _ => false
def eqN (a b : D) : Bool := match keyN a, keyN b with
  | some x, some y => NestedKey.beq x y
  | _, _ => false
def lookN : List (D × D) → D → Option D
  | [], _ => none
  | (k, v) :: r, q => if eqN k q then some v else lookN r q
def replN : List (D × D) → D → D → List (D × D)
  | [], _, _ => []
  | (k, v) :: r, q, y => if eqN k q then (k, y) :: replN r q y else (k, v) :: replN r q y
def putN (kvs : List (D × D)) (q y : D) : List (D × D) := if (lookN kvs q).isSome then replN kvs q y else kvs ++ [(q, y)]
/-! ghost steps -/
/-- the object of slot i is changed no more -/
def sFreeze (i : Nat) : RS := fun δ S => match δ[i]? with
  | some (some (.ptr k)) => (match S[k]? with
    | some (.lst ds) => .nx (δ.set i (some (.lst ds))) (S.set k .non)
    | _ => .stuck)
  | _ => .stuck
mutual
/-- nothing in it stands in the store from n on -/
def D.closed (n : Nat) : D → Bool
  | .ptr k => decide (k < n)
  | .tup xs => closedL n xs
  | .lst xs => closedL n xs
  | .dct kvs => closedK n kvs
  | .dcn kvs => closedK n kvs
  | .lck d => D.closed n d
  | .tux xs => closedL n xs
  | .exc _ fs => closedK n fs
  | .dc0 d => D.closed n d
  | .lam _ _ _ _ ds => closedL n ds
  | _ => true
def closedL (n : Nat) : List D → Bool
  | [] => true
  | d :: r => D.closed n d && closedL n r
def closedK (n : Nat) : List (D × D) → Bool
  | [] => true
  | (k, v) :: r => D.closed n k && D.closed n v && closedK n r
end
/-- a thing of the store that is neither gone nor locked -/
def D.open : D → Bool
  | .non => false
  | .lck _ => false
  | _ => true
def D.owned : D → Bool
  | .lst _ => true
  | .dct _ => true
  | .dcn _ => true
  | _ => false
/-- a thing that a def made and gives away, to be changed further -/
def giveD (n : Nat) (d : D) (S1 : Sto) : Res D := match d with
  | .ptr k => (match S1[k]? with
    | some u => if u.owned && D.closed n u && decide (n ≤ k) && closedL n (S1.take n) then .ok (.ptr n) (S1.take n ++ [u]) else .stuck
    | none => .stuck)
  | _ => .stuck
/-- a def: n slots, its body; what it made itself in the store goes -/
def mDef (n : Nat) (b : RS) : Mir := fun ds S => match b (ds.map some ++ List.replicate (n - ds.length) none) S with
  | .rt d S1 => if D.closed S.length d && closedL S.length (S1.take S.length) then .ok d (S1.take S.length) else giveD S.length d S1
  | .nx _ S1 => if closedL S.length (S1.take S.length) then .ok .non (S1.take S.length) else .stuck
  | .err c fs _ S1 => if closedL S.length (fs.map (·.2)) && closedL S.length (S1.take S.length) then .err c fs (S1.take S.length) else .stuck
  | _ => .stuck
end DL
set_option Elab.async false
set_option linter.all false
set_option maxRecDepth 100000
set_option maxHeartbeats 4000000
set_option autoImplicit false
/-! Data layer: tuples that are made, known to the object. -/
namespace DL
open PySem PySem.Spec PyProof.Rows L2
abbrev Fg := PySem.W.Frag
/-- a tuple without a dict of its own -/
def PlT (K : Fg) (F : Hp) (a : Addr) (xs : List V) : Prop := SqT K F a xs ∧ ((∃ o, F a = some (.frz o (.tup xs)) ∧ o.dict = none) ∨ ∃ o, K.lookup a = some o ∧ o.dict = none)
/-- a tuple that is made at a new place -/
def TLays (H : Hp) (xs : List V) (Q : VK) : Prop := ∀ p, H p = none → ∀ o : Obj, o.dict = none → Q (.ref p) (upd H p (.frz o (.tup xs)))
def tupObj (us : Array Value) : Obj := { cls := .type "tuple", data := .seq us }
theorem tup_frz {P : Program} {w : World} {H : Hp} {h : Heap} {us : List Value} {xs : List V} (z : xs.length ≤ sizeLine) (r : Vals xs us) : ObjOk P w H (h.push (tupObj us.toArray)) h.objs.size (.frz (tupObj us.toArray) (.tup xs)) :=
  ⟨Heap.get?_push_size _ rfl, z, us, r, ⟨_, Heap.get?_push_size _ rfl, rfl, _, rfl⟩⟩
section
variable {X : Cx} {es : List Expr} {pos : Pos} {t : TA}
def tTupP (t : TA) : TE := fun σ H Q => t σ H fun xs H1 => xs.length ≤ sizeLine ∧ TLays H1 xs Q
theorem pe_tupP {x1} (h : PA X es t) : PE X (.Tuple es x1 pos) (tTupP t) := by
  refine ⟨fun pins s σ H Q I hq => ?_⟩
  refine wpAny_Tuple_spliced (thn (h.run pos pins s σ H _ I hq) fun us s1 ⟨xs, H1, I1, r, z, q⟩ => ⟨by rw [← r.length]; exact z, ?_⟩)
  have hf : H1 s1.heap.objs.size = none := I1.hok.fresh (Nat.le_refl _)
  exact ⟨.ref s1.heap.objs.size, upd H1 s1.heap.objs.size (.frz (tupObj us.toArray) (.tup xs)), I1.laid (t' := s1.toks) (fun b u e => Heap.get?_push_of_some _ e) (Nat.le_refl _) (tup_frz z r), rfl, q _ hf _ rfl⟩
theorem call_tuple_ofP : CallR X (.type "tuple") (fun xs H Q => ∃ p ys, xs = [.ref p] ∧ ((SqL X.K H p ys ∧ TLays H ys Q) ∨ (SqT X.K H p ys ∧ Q (.ref p) H))) := by
  intro pins s σ H xs us Q I r h
  obtain ⟨p, ys, rfl, h⟩ := h
  obtain ⟨u, rfl, rx⟩ := vals1 r
  cases rx
  rcases h with ⟨hq, q⟩ | ⟨hq, q⟩
  · obtain ⟨its, r', pl, hz⟩ := I.list hq
    have hlen := r'.length
    refine call_tuple_list pl.isList (fun h' kp => ?_) (by simp only [List.size_toArray] <;> omega)
    have I1 : Inv X pins σ H { s with heap := h' } := I.kept (t' := s.toks) kp
    have I2 : Inv X pins σ (upd H h'.objs.size (.frz (tupObj its.toArray) (.tup ys))) { s with heap := h'.push { cls := .type "tuple", data := .seq its.toArray } } :=
      I1.laid (t' := s.toks) (fun b o e => Heap.get?_push_of_some _ e) (Nat.le_refl _) (tup_frz hz r')
    exact ⟨.ref h'.objs.size, _, I2, rfl, q _ (I1.hok.fresh (Nat.le_refl _)) _ rfl⟩
  · obtain ⟨its, r', pl, hz⟩ := I.tuple hq
    exact call_tuple_same pl ⟨.ref p, H, I, rfl, q⟩
/-- t + u -/
def rCatP (K : Fg) : R2 := fun x y H Q => ∃ a b xs ys, x = .ref a ∧ y = .ref b ∧ SqT K H a xs ∧ SqT K H b ys ∧ xs.length + ys.length ≤ sizeLine ∧
  (xs = [] → Q (.ref b) H) ∧ (xs ≠ [] → ys = [] → Q (.ref a) H) ∧ (xs ≠ [] → ys ≠ [] → TLays H (xs ++ ys) Q)
theorem op_catP : OpR X (binaryOp .Add) (rCatP X.K) := by
  intro pins s σ H x y v u Q I rx ry h
  obtain ⟨a, b, xs, ys, rfl, rfl, ha, hb, hz, q0, q1, q2⟩ := h
  cases rx
  cases ry
  obtain ⟨its, r1, p1, _⟩ := I.tuple ha
  obtain ⟨its2, r2, p2, _⟩ := I.tuple hb
  by_cases hx : xs = []
  · subst hx
    cases r1
    exact cat_tup0 p1 p2 ⟨.ref b, H, I, rfl, q0 rfl⟩
  · refine HT.cat_tup p1 p2 (fun z => hx (r1.nil_iff.mp z)) (fun z => ⟨.ref a, H, I, rfl, q1 hx (r2.nil_iff.mp z)⟩) (fun z => ?_) (by rw [← r1.length, ← r2.length]; exact hz)
    exact ⟨.ref s.heap.objs.size, _, I.laid (t' := s.toks) (o := .frz (tupObj (its ++ its2).toArray) (.tup (xs ++ ys))) (fun b ob q => Heap.get?_push_of_some _ q) (Nat.le_refl _) (tup_frz (by rw [List.length_append]; exact hz) (r1.append r2)), rfl, q2 hx (fun w => z (r2.nil_iff.mpr w)) _ (I.hok.fresh (Nat.le_refl _)) _ rfl⟩
/-- t[lo:hi]: the whole of it is t itself -/
def rSlP (K : Fg) : V → Option Int → Option Int → Hp → VK → Prop := fun x lo hi H Q => ∃ a xs, x = .ref a ∧ SqT K H a xs ∧
  (HT.sIx xs.length 0 lo = 0 ∧ HT.sIx xs.length xs.length hi = xs.length → Q (.ref a) H) ∧ (¬ (HT.sIx xs.length 0 lo = 0 ∧ HT.sIx xs.length xs.length hi = xs.length) → TLays H (cutV xs lo hi) Q)
theorem sl_tupP : SlR X (rSlP X.K) := by
  intro pins s σ H x v vl vu lo hi sl Q I rx hs pl pu h
  obtain ⟨a, xs, rfl, hx, q1, q2⟩ := h
  cases rx
  obtain ⟨its, r, ht, hz⟩ := I.tuple hx
  have hlen : its.toArray.size = xs.length := by rw [List.size_toArray]; exact r.length.symm
  refine ⟨"tuple", _, PyProof.Rows.slot_tuple_getitem.lookup, ht.typeIs, ?_⟩
  by_cases hw : HT.sIx xs.length 0 lo = 0 ∧ HT.sIx xs.length xs.length hi = xs.length
  · exact getItem_tuple_whole ht hs pl pu (by rw [hlen]; exact hw) ⟨.ref a, H, I, rfl, q1 hw⟩
  · refine HT.getItem_tuple_cut ht hs pl pu (by rw [hlen]; exact hw) ?_ (by rw [hlen]; exact hz)
    rw [hlen]
    exact ⟨.ref s.heap.objs.size, _, I.laid (t' := s.toks) (o := .frz (tupObj _) (.tup (cutV xs lo hi))) (fun b ob q => Heap.get?_push_of_some _ q) (Nat.le_refl _) (tup_frz (Nat.le_trans (cutV_length xs lo hi) hz) ((r.drop (HT.sIx xs.length 0 lo)).take (HT.sIx xs.length xs.length hi - HT.sIx xs.length 0 lo))), rfl, q2 hw _ (I.hok.fresh (Nat.le_refl _)) _ rfl⟩
end
end DL
set_option Elab.async false
set_option linter.all false
set_option maxRecDepth 100000
set_option maxHeartbeats 4000000
set_option autoImplicit false
/-! Data layer, second part: what data are in the heap; the judgements. -/
namespace DL
open PySem PySem.Spec PyProof.Rows L2
/-- a dict of one pair, its key None -/
def dz (a : Addr) (o : Obj) (v : V) : HO := .ext fun h => (a == sysModules) = false ∧ h.get? a = some o ∧ o.ExactDict ∧ ∃ (ep : Nat) (e : DictEntry), e.key = .none ∧ RelV v e.val ∧ o.data = .dict #[e] ep
/-- an exception that was caught, at a: of the class cls, its dict -/
def exh (a : Addr) (cls : Value) (d : Option Addr) : HO := .ext fun h => ∃ (oe : Obj) (vs : Array Value), h.get? a = some oe ∧ Zc cls d oe ∧ oe.data = .fields vs
def ExFs (F : Hp) (d : Option Addr) (ws : List (Str × V)) : Prop := (d = none ∧ ws = []) ∨ ∃ dd, d = some dd ∧ F dd = some (.xd ws)
inductive DKs : List Key → List D → Prop
  | nil : DKs [] []
  | int {i : Int} {ks : List Key} {ds : List D} : DKs ks ds → DKs (.inl i :: ks) (.int i :: ds)
  | str {x : Str} {ks : List Key} {ds : List D} : DKs ks ds → DKs (.inr x :: ks) (.str x :: ds)
theorem DKs.length : ∀ {ks : List Key} {ds : List D}, DKs ks ds → ks.length = ds.length
  | _, _, .nil => rfl
  | _, _, .int t => by rw [List.length_cons, List.length_cons, DKs.length t]
  | _, _, .str t => by rw [List.length_cons, List.length_cons, DKs.length t]
mutual
inductive DV (wd : World) (K : Fg) (mg : Str → Option Value) (F : Hp) (α : List Addr) : V → D → Prop
  | non : DV wd K mg F α .non .non
  | bl (b : Bool) : DV wd K mg F α (.bl b) (.bl b)
  | int (i : Int) : DV wd K mg F α (.int i) (.int i)
  | str (x : Str) : DV wd K mg F α (.str x) (.str x)
  | tux {a : Addr} {xs : List V} {ds : List D} : SqT K F a xs → DVs wd K mg F α xs ds → DV wd K mg F α (.ref a) (.tux ds)
  | tup {a : Addr} {xs : List V} {ds : List D} : PlT K F a xs → DVs wd K mg F α xs ds → DV wd K mg F α (.ref a) (.tup ds)
  | lst {a : Addr} {xs : List V} {ds : List D} : SqL K F a xs → DVs wd K mg F α xs ds → DV wd K mg F α (.ref a) (.lst ds)
  | ptr {k : Nat} {a : Addr} : α[k]? = some a → DV wd K mg F α (.ref a) (.ptr k)
  | fn {x : Str} {a : Addr} : mg x = some (.ref a) → DV wd K mg F α (.ref a) (.fn x)
  | ty (n : String) : DV wd K mg F α (.ty n) (.ty n)
  | exc {c : Str} {C a : Addr} {d : Option Addr} {ws : List (Str × V)} {fs : List (D × D)} : mg c = some (.ref C) → F a = some (exh a (.ref C) d) → ExFs F d ws → fs.map (·.1) = ws.map (fun p => .str p.1) → DVs wd K mg F α (ws.map (·.2)) (fs.map (·.2)) → DV wd K mg F α (.ref a) (.exc c fs)
  | dc0 {a : Addr} {o : Obj} {v : V} {d : D} : F a = some (dz a o v) → DV wd K mg F α v d → DV wd K mg F α (.ref a) (.dc0 d)
  | lam {f c : Addr} {q : Str} {vs : List V} {ds : List D} : F c = some (LamX.CodeO c q) → DVs wd K mg F α vs ds → DV wd K mg F α (.ref f) (.lam f c q vs ds)
inductive DVs (wd : World) (K : Fg) (mg : Str → Option Value) (F : Hp) (α : List Addr) : List V → List D → Prop
  | nil : DVs wd K mg F α [] []
  | cons {v : V} {d : D} {vs : List V} {ds : List D} : DV wd K mg F α v d → DVs wd K mg F α vs ds → DVs wd K mg F α (v :: vs) (d :: ds)
end
/-- more stands for good -/
def Sub (F F' : Hp) : Prop := ∀ a o, F a = some o → F' a = some o
theorem Sub.refl (F : Hp) : Sub F F := fun _ _ h => h
theorem Sub.trans {F F1 F2 : Hp} (a : Sub F F1) (b : Sub F1 F2) : Sub F F2 := fun x o h => b x o (a x o h)
theorem Sub.sqL {K : Fg} {F F' : Hp} {a : Addr} {xs : List V} (s : Sub F F') (h : SqL K F a xs) : SqL K F' a xs := by
  rcases h with (h | ⟨o, h⟩) | h
  · exact .inl (.inl (s _ _ h))
  · exact .inl (.inr ⟨o, s _ _ h⟩)
  · exact .inr h
theorem Sub.sqT {K : Fg} {F F' : Hp} {a : Addr} {xs : List V} (s : Sub F F') (h : SqT K F a xs) : SqT K F' a xs := by
  rcases h with (h | ⟨o, h⟩) | h
  · exact .inl (.inl (s _ _ h))
  · exact .inl (.inr ⟨o, s _ _ h⟩)
  · exact .inr h
theorem Sub.plT {K : Fg} {F F' : Hp} {a : Addr} {xs : List V} (s : Sub F F') (h : PlT K F a xs) : PlT K F' a xs := ⟨s.sqT h.1, h.2.imp (fun ⟨o, e, q⟩ => ⟨o, s _ _ e, q⟩) id⟩
theorem Sub.new {F : Hp} {a : Addr} {o : HO} (h : F a = none) : Sub F (upd F a o) := fun b u e => by
  have : b ≠ a := fun z => by subst z; rw [h] at e; cases e
  rw [upd_ne this]; exact e
section
variable {wd : World} {K : Fg} {mg : Str → Option Value} {F F' : Hp} {α β : List Addr}
theorem at_app {A : Type} {l m : List A} {k : Nat} {a : A} (h : l[k]? = some a) : (l ++ m)[k]? = some a := by
  obtain ⟨hk, e⟩ := List.getElem?_eq_some_iff.mp h
  rw [List.getElem?_append_left hk]; exact h
mutual
theorem DV.mono {v : V} {d : D} (s : Sub F F') : DV wd K mg F α v d → DV wd K mg F' (α ++ β) v d
  | .non => .non
  | .bl b => .bl b
  | .int i => .int i
  | .str x => .str x
  | .tup h t => .tup (s.plT h) (DVs.mono s t)
  | .tux h t => .tux (s.sqT h) (DVs.mono s t)
  | .lst h t => .lst (s.sqL h) (DVs.mono s t)
  | .ptr h => .ptr (at_app h)
  | .fn h => .fn h
  | .ty n => .ty n
  | .exc h1 h2 h3 h4 h5 => .exc h1 (s _ _ h2) (h3.imp id fun ⟨dd, e, q⟩ => ⟨dd, e, s _ _ q⟩) h4 (DVs.mono s h5)
  | .dc0 h t => .dc0 (s _ _ h) (DV.mono s t)
  | .lam h t => .lam (s _ _ h) (DVs.mono s t)
theorem DVs.mono {vs : List V} {ds : List D} (s : Sub F F') : DVs wd K mg F α vs ds → DVs wd K mg F' (α ++ β) vs ds
  | .nil => .nil
  | .cons h t => .cons (DV.mono s h) (DVs.mono s t)
end
theorem DVs.length : ∀ {vs : List V} {ds : List D}, DVs wd K mg F α vs ds → vs.length = ds.length
  | _, _, .nil => rfl
  | _, _, .cons _ t => by rw [List.length_cons, List.length_cons, DVs.length t]
theorem DVs.get : ∀ {vs : List V} {ds : List D} {i : Nat} {d : D}, DVs wd K mg F α vs ds → ds[i]? = some d → ∃ v, vs[i]? = some v ∧ DV wd K mg F α v d
  | _, _, _, _, .nil, e => by simp at e
  | _, _, 0, _, .cons h _, e => by simp at e; subst e; exact ⟨_, rfl, h⟩
  | _, _, i + 1, d, .cons _ t, e => by
    obtain ⟨v, h1, h2⟩ := DVs.get (i := i) (d := d) t (by simpa using e)
    exact ⟨v, by simpa using h1, h2⟩
theorem DVs.append : ∀ {vs ws : List V} {ds es : List D}, DVs wd K mg F α vs ds → DVs wd K mg F α ws es → DVs wd K mg F α (vs ++ ws) (ds ++ es)
  | _, _, _, _, .nil, s => s
  | _, _, _, _, .cons h t, s => .cons h (DVs.append t s)
theorem DVs.take : ∀ {vs : List V} {ds : List D} (n : Nat), DVs wd K mg F α vs ds → DVs wd K mg F α (vs.take n) (ds.take n)
  | _, _, 0, _ => .nil
  | _, _, _ + 1, .nil => .nil
  | _, _, n + 1, .cons h t => .cons h (DVs.take n t)
theorem DVs.drop : ∀ {vs : List V} {ds : List D} (n : Nat), DVs wd K mg F α vs ds → DVs wd K mg F α (vs.drop n) (ds.drop n)
  | _, _, 0, h => h
  | _, _, _ + 1, .nil => .nil
  | _, _, n + 1, .cons _ t => DVs.drop n t
theorem DVs.set {v : V} {d : D} (h : DV wd K mg F α v d) : ∀ {vs : List V} {ds : List D} (i : Nat), DVs wd K mg F α vs ds → DVs wd K mg F α (vs.set i v) (ds.set i d)
  | _, _, _, .nil => .nil
  | _, _, 0, .cons _ t => .cons h t
  | _, _, i + 1, .cons q t => .cons q (DVs.set h i t)
theorem DVs.reverse {vs : List V} {ds : List D} (h : DVs wd K mg F α vs ds) : DVs wd K mg F α vs.reverse ds.reverse := by
  induction vs generalizing ds with
  | nil => cases h; exact .nil
  | cons v r ih =>
    cases h with
    | cons h t =>
      rw [List.reverse_cons, List.reverse_cons]
      exact DVs.append (ih t) (.cons h .nil)
theorem DVs.ints : ∀ {vs : List V} {ns : List Int}, DVs wd K mg F α vs (ns.map .int) → vs = ns.map .int
  | _, [], h => by cases h; rfl
  | _, n :: r, h => by
    cases h with
    | cons h t => cases h; rw [DVs.ints t]; rfl
theorem DVs.bls : ∀ {vs : List V} {ns : List Bool}, DVs wd K mg F α vs (ns.map .bl) → vs = ns.map .bl
  | _, [], h => by cases h; rfl
  | _, n :: r, h => by
    cases h with
    | cons h t => cases h; rw [DVs.bls t]; rfl
theorem DVs.of_ints : ∀ ns : List Int, DVs wd K mg F α (ns.map .int) (ns.map .int)
  | [] => .nil
  | n :: r => .cons (.int n) (DVs.of_ints r)
theorem DVs.of_strs : ∀ ns : List Str, DVs wd K mg F α (ns.map .str) (ns.map .str)
  | [] => .nil
  | n :: r => .cons (.str n) (DVs.of_strs r)
end
/-- values beside values -/
def NV : List (NestedKey × Addr × V) → List (NestedKey × Addr × Value) → Prop := Paired fun p q => p.1 = q.1 ∧ p.2.1 = q.2.1 ∧ RelV p.2.2 q.2.2
/-- a dict whose keys are tuples -/
def dN (w : World) (a : Addr) (xs : List (NestedKey × Addr × V)) : HO := .ext fun h => (a == sysModules) = false ∧ xs.length ≤ sizeLine ∧ (xs.map (·.1)).Nodup ∧ ∃ vs, NV xs vs ∧ ∃ o es ep, h.get? a = some o ∧ o.ExactDict ∧ o.data = .dict es ep ∧ es.toList = vs.map (fun x => (⟨x.1.hash w, .ref x.2.1, x.2.2⟩ : DictEntry))
/-- its pairs -/
inductive NVs (wd : World) (K : Fg) (mg : Str → Option Value) (F : Hp) (α : List Addr) : List (NestedKey × Addr × V) → List (D × D) → Prop
  | nil : NVs wd K mg F α [] []
  | cons {nk : NestedKey} {b : Addr} {v : V} {q d : D} {xs : List (NestedKey × Addr × V)} {kvs : List (D × D)} : keyN q = some nk → nk.depth ≤ 8 → DV wd K mg F α (.ref b) q → (∃ ds, q = .tup ds) → DV wd K mg F α v d → NVs wd K mg F α xs kvs → NVs wd K mg F α ((nk, b, v) :: xs) ((q, d) :: kvs)
theorem NVs.mono {wd : World} {K : Fg} {mg : Str → Option Value} {F F' : Hp} {α β : List Addr} {xs : List (NestedKey × Addr × V)} {kvs : List (D × D)} (s : Sub F F') (h : NVs wd K mg F α xs kvs) : NVs wd K mg F' (α ++ β) xs kvs := by
  induction h with
  | nil => exact .nil
  | cons h1 h2 h3 h4 h6 _ ih => exact .cons h1 h2 (h3.mono s) h4 (h6.mono s) ih
/-- the store's object at a is d -/
def Own (wd : World) (K : Fg) (mg : Str → Option Value) (F : Hp) (α : List Addr) (H : Hp) (a : Addr) : D → Prop
  | .lst ds => ∃ xs, H a = some (.lst xs) ∧ DVs wd K mg F α xs ds
  | .dct kvs => ∃ ws : List (Key × V), H a = some (.dK ws) ∧ DKs (ws.map (·.1)) (kvs.map (·.1)) ∧ DVs wd K mg F α (ws.map (·.2)) (kvs.map (·.2))
  | .dcn kvs => ∃ xs, H a = some (dN wd a xs) ∧ NVs wd K mg F α xs kvs
  | .lck (.dct kvs) => ∃ o, ∃ ws : List (Key × V), F a = some (.frz o (.dK ws)) ∧ H a = some (.frz o (.dK ws)) ∧ DKs (ws.map (·.1)) (kvs.map (·.1)) ∧ DVs wd K mg F α (ws.map (·.2)) (kvs.map (·.2))
  | .lck (.dcn kvs) => ∃ o xs, F a = some (.frz o (dN wd a xs)) ∧ H a = some (.frz o (dN wd a xs)) ∧ NVs wd K mg F α xs kvs
  | .non => True
  | .lam P _ q _ _ => a = P ∧ ∃ ps : Array Value, H a = some (.tbl ps) ∧ TriplesOk ps.toList ∧ ∀ (pos : Pos) (cv : Value), codeAmong pos ps.toList = some cv → ∃ c, cv = .ref c ∧ F c = some (LamX.CodeO c q)
  | _ => False
structure Rel (wd : World) (K : Fg) (mg : Str → Option Value) (α : List Addr) (F H : Hp) (S : Sto) : Prop where
  sub : Sub F H
  len : α.length = S.length
  nd : α.Nodup
  here : ∀ a ∈ α, ∃ o, H a = some o
  own : ∀ (k : Nat) (a : Addr) (d : D), α[k]? = some a → S[k]? = some d → Own wd K mg F α H a d ∧ (d.open = true → F a = none)
/-- what stood and isn't the store's stands -/
structure Stp (α : List Addr) (F H : Hp) (β : List Addr) (F' H' : Hp) : Prop where
  new : ∀ b ∈ β, H b = none
  sub : Sub F F'
  frame : ∀ a o, a ∉ α → H a = some o → H' a = some o
  live : ∀ a, H' a = none → H a = none
  fnew : ∀ a, a ∉ α → F a = none → H a ≠ none → F' a = none
theorem Stp.refl {α : List Addr} {F H : Hp} : Stp α F H [] F H := ⟨(fun _ h => nomatch h), Sub.refl F, fun _ _ _ h => h, fun _ h => h, fun _ _ h _ => h⟩
theorem Stp.trans {α β γ : List Addr} {F H F1 H1 F2 H2 : Hp} (a : Stp α F H β F1 H1) (b : Stp (α ++ β) F1 H1 γ F2 H2) : Stp α F H (β ++ γ) F2 H2 := by
  have fr : ∀ x o, x ∉ α → H x = some o → H2 x = some o := fun x o n e => b.frame x o (fun z => by
    rcases List.mem_append.mp z with z | z
    · exact n z
    · rw [a.new x z] at e; cases e) (a.frame x o n e)
  refine ⟨fun x hx => ?_, a.sub.trans b.sub, fr, fun x h => a.live x (b.live x h), fun x h1 h2 h3 => b.fnew x (fun z => ?_) (a.fnew x h1 h2 h3) fun z => h3 (a.live x z)⟩
  rotate_left
  · rcases List.mem_append.mp z with z | z
    · exact h1 z
    · exact h3 (a.new x z)
  rcases List.mem_append.mp hx with z | z
  · exact a.new x z
  · exact a.live x (b.new x z)
section
variable {wd : World} {K : Fg} {mg : Str → Option Value} {α β : List Addr} {F F' H H' : Hp} {S S' : Sto}
theorem Own.mono {a : Addr} {d : D} (s : Sub F F') (e : H' a = H a) (h : Own wd K mg F α H a d) : Own wd K mg F' (α ++ β) H' a d := by
  cases d with
  | lst ds => obtain ⟨xs, h1, h2⟩ := h; exact ⟨xs, e.trans h1, h2.mono s⟩
  | dct kvs => obtain ⟨ws, h1, h2, h3⟩ := h; exact ⟨ws, e.trans h1, h2, h3.mono s⟩
  | dcn kvs => obtain ⟨ws, h1, h2⟩ := h; exact ⟨ws, e.trans h1, h2.mono s⟩
  | lck u =>
    cases u with
    | dct kvs => obtain ⟨o, ws, h0, h1, h2, h3⟩ := h; exact ⟨o, ws, s _ _ h0, e.trans h1, h2, h3.mono s⟩
    | dcn kvs => obtain ⟨o, ws, h0, h1, h2⟩ := h; exact ⟨o, ws, s _ _ h0, e.trans h1, h2.mono s⟩
    | _ => exact h.elim
  | non => trivial
  | lam P _ q _ _ => obtain ⟨h0, ps, h1, h2, h3⟩ := h; exact ⟨h0, ps, e.trans h1, h2, fun pos cv hc => (h3 pos cv hc).imp fun c hc => ⟨hc.1, s _ _ hc.2⟩⟩
  | _ => exact h.elim
theorem Rel.notF (r : Rel wd K mg α F H S) {p : Addr} (hp : H p = none) : F p = none := by
  cases e : F p with
  | none => rfl
  | some u => rw [r.sub _ _ e] at hp; cases hp
theorem Rel.notin (r : Rel wd K mg α F H S) {p : Addr} (hp : H p = none) : p ∉ α := fun h => by
  obtain ⟨o, e⟩ := r.here p h
  rw [hp] at e; cases e
theorem upd_some {H : Hp} {p a : Addr} {o u : HO} (hp : H p = none) (e : H a = some u) : upd H p o a = some u := by
  have z : a ≠ p := fun z => by subst z; rw [hp] at e; cases e
  rw [upd_ne z]; exact e
theorem upd_none {H : Hp} {p a : Addr} {o : HO} (h : upd H p o a = none) : H a = none := by
  by_cases z : a = p
  · subst z; rw [upd_same] at h; cases h
  · rw [upd_ne z] at h; exact h
theorem Sub.upd {F H : Hp} {p : Addr} {o : HO} (s : Sub F H) : Sub (upd F p o) (L2.upd H p o) := fun a u e => by
  by_cases z : a = p
  · subst z; rw [upd_same] at e ⊢; exact e
  · rw [upd_ne z] at e ⊢; exact s _ _ e
theorem Stp.ofNew {p : Addr} {o : HO} (hp : H p = none) (sb : Sub F F') (h : ∀ b ∈ β, b = p) (hf : ∀ a, a ≠ p → F a = none → F' a = none) : Stp α F H β F' (upd H p o) :=
  ⟨fun b hb => by rw [h b hb]; exact hp, sb, fun a u _ e => upd_some hp e, fun a e => upd_none e, fun a _ h2 h3 => hf a (fun z => h3 (z ▸ hp)) h2⟩
theorem Rel.other (r : Rel wd K mg α F H S) {p : Addr} {o : HO} (hp : p ∉ α) (hf : F p = none) : Rel wd K mg α F (upd H p o) S := by
  refine ⟨fun a u e => ?_, r.len, r.nd, fun a h => ?_, fun k a d h1 h2 => ?_⟩
  · have z : a ≠ p := fun z => by subst z; rw [hf] at e; cases e
    rw [upd_ne z]; exact r.sub _ _ e
  · have z : a ≠ p := fun z => hp (z ▸ h)
    obtain ⟨u, e⟩ := r.here a h
    exact ⟨u, by rw [upd_ne z]; exact e⟩
  · obtain ⟨h3, h4⟩ := r.own k a d h1 h2
    have z : a ≠ p := fun z => hp (z ▸ List.mem_of_getElem? h1)
    have h5 : Own wd K mg F (α ++ []) (upd H p o) a d := h3.mono (Sub.refl F) (upd_ne z)
    rw [List.append_nil] at h5
    exact ⟨h5, h4⟩
theorem Stp.other (s : Stp α F H β F' H') {p : Addr} {o : HO} (hp : H p = none) : Stp α F H β F' (upd H' p o) := by
  refine ⟨s.new, s.sub, fun a u h e => ?_, fun a e => s.live a (upd_none e), s.fnew⟩
  have z : a ≠ p := fun z => by subst z; rw [hp] at e; cases e
  rw [upd_ne z]; exact s.frame a u h e
/-- a new thing that stands for good -/
theorem Rel.newF (r : Rel wd K mg α F H S) {p : Addr} {o : HO} (hp : H p = none) : Rel wd K mg (α ++ []) (upd F p o) (upd H p o) S ∧ Stp α F H [] (upd F p o) (upd H p o) := by
  have hF := r.notF hp
  have sb : Sub F (upd F p o) := Sub.new hF
  refine ⟨⟨r.sub.upd, by rw [List.append_nil]; exact r.len, by rw [List.append_nil]; exact r.nd, fun a h => ?_, fun k a d h1 h2 => ?_⟩, Stp.ofNew hp sb (fun _ h => nomatch h) fun a z e => by rw [upd_ne z]; exact e⟩
  · rw [List.append_nil] at h
    obtain ⟨u, e⟩ := r.here a h
    exact ⟨u, upd_some hp e⟩
  · rw [List.append_nil] at h1
    obtain ⟨h3, h4⟩ := r.own k a d h1 h2
    have z : a ≠ p := fun z => r.notin hp (z ▸ List.mem_of_getElem? h1)
    exact ⟨h3.mono sb (upd_ne z), fun hd => by rw [upd_ne z]; exact h4 hd⟩
/-- the store's object k is changed -/
theorem Rel.setO (r : Rel wd K mg α F H S) {k : Nat} {a : Addr} {o : HO} {d e : D} (h1 : α[k]? = some a) (h2 : S[k]? = some e) (he : e.open = true) (hd : Own wd K mg F α (upd H a o) a d) :
    Rel wd K mg (α ++ []) F (upd H a o) (S.set k d) ∧ Stp α F H [] F (upd H a o) := by
  obtain ⟨_, q⟩ := r.own k a e h1 h2
  have hF := q he
  have hn := r.nd
  have ha : a ∈ α := List.mem_of_getElem? h1
  refine ⟨⟨fun b u e => ?_, by rw [List.append_nil, List.length_set]; exact r.len, by rw [List.append_nil]; exact r.nd, fun b h => ?_, fun j b u g1 g2 => ?_⟩, ⟨(fun _ h => nomatch h), Sub.refl F, fun b u hb e => ?_, fun b e => upd_none e, fun _ _ h _ => h⟩⟩
  · have z : b ≠ a := fun z => by subst z; rw [hF] at e; cases e
    rw [upd_ne z]; exact r.sub _ _ e
  · rw [List.append_nil] at h
    by_cases z : b = a
    · subst z; exact ⟨_, upd_same⟩
    · obtain ⟨u, e⟩ := r.here b h
      exact ⟨u, by rw [upd_ne z]; exact e⟩
  · rw [List.append_nil] at g1
    by_cases z : j = k
    · subst z
      rw [h1] at g1; cases g1
      rw [List.getElem?_set_self (List.getElem?_eq_some_iff.mp h2).1] at g2
      cases g2
      rw [List.append_nil]
      exact ⟨hd, fun _ => hF⟩
    · rw [List.getElem?_set_ne (Ne.symm z)] at g2
      obtain ⟨h3, h4⟩ := r.own j b u g1 g2
      have y : b ≠ a := fun y => by
        subst y
        exact z ((List.getElem_inj hn).mp ((List.getElem?_eq_some_iff.mp g1).2.trans (List.getElem?_eq_some_iff.mp h1).2.symm))
      exact ⟨h3.mono (Sub.refl F) (upd_ne y), h4⟩
  · have z : b ≠ a := fun z => hb (z ▸ ha)
    rw [upd_ne z]; exact e
end
section
variable {wd : World} {K : Fg} {mg : Str → Option Value} {α β : List Addr} {F F' H H' : Hp} {S S' : Sto}
/-- a thing that stands by itself becomes the store's -/
theorem Rel.adopt (r : Rel wd K mg α F H S) {p : Addr} {d : D} (hp : p ∉ α) (hf : F p = none) (hd : Own wd K mg F α H p d) (hn : d.open = true) : Rel wd K mg (α ++ [p]) F H (S ++ [d]) := by
  have ex : ∃ o, H p = some o := by
    cases d with
    | lst ds => obtain ⟨xs, e, _⟩ := hd; exact ⟨_, e⟩
    | dct kvs => obtain ⟨xs, e, _⟩ := hd; exact ⟨_, e⟩
    | dcn kvs => obtain ⟨xs, e, _⟩ := hd; exact ⟨_, e⟩
    | non => cases hn
    | lck _ => cases hn
    | lam _ _ _ _ _ => obtain ⟨_, ps, e, _⟩ := hd; exact ⟨_, e⟩
    | _ => exact hd.elim
  refine ⟨r.sub, by rw [List.length_append, List.length_append, r.len]; rfl, ?_, fun a h => ?_, fun k a e h1 h2 => ?_⟩
  · refine List.nodup_append.mpr ⟨r.nd, by simp, fun a ha b hb z => ?_⟩
    have : b = p := by simpa using hb
    subst this; subst z
    exact hp ha
  · rcases List.mem_append.mp h with h | h
    · exact r.here a h
    · have : a = p := by simpa using h
      subst this
      exact ex
  · have hk : k < (α ++ [p]).length := (List.getElem?_eq_some_iff.mp h1).1
    by_cases q : k < α.length
    · rw [List.getElem?_append_left q] at h1
      rw [List.getElem?_append_left (by rw [← r.len]; exact q)] at h2
      obtain ⟨h3, h4⟩ := r.own k a e h1 h2
      exact ⟨h3.mono (Sub.refl F) rfl, h4⟩
    · have hk' : k = α.length := by rw [List.length_append] at hk; simp at hk; omega
      subst hk'
      rw [List.getElem?_append_right (Nat.le_refl _), Nat.sub_self] at h1
      rw [r.len, List.getElem?_append_right (Nat.le_refl _), Nat.sub_self] at h2
      simp at h1 h2
      subst h1; subst h2
      exact ⟨hd.mono (Sub.refl F) rfl, fun _ => hf⟩
/-- a thing that stands by itself stands for good -/
theorem Rel.freeze (r : Rel wd K mg α F H S) {p : Addr} {o : HO} (hp : p ∉ α) (hf : F p = none) (ho : H p = some o) : Rel wd K mg α (upd F p o) H S ∧ Sub F (upd F p o) := by
  have sb : Sub F (upd F p o) := Sub.new hf
  refine ⟨⟨fun a u e => ?_, r.len, r.nd, r.here, fun k a d h1 h2 => ?_⟩, sb⟩
  · by_cases z : a = p
    · subst z; rw [upd_same] at e; rw [ho]; exact e
    · rw [upd_ne z] at e; exact r.sub _ _ e
  · obtain ⟨h3, h4⟩ := r.own k a d h1 h2
    have z : a ≠ p := fun z => hp (z ▸ List.mem_of_getElem? h1)
    have h5 : Own wd K mg (upd F p o) (α ++ []) H a d := h3.mono sb rfl
    rw [List.append_nil] at h5
    exact ⟨h5, fun hd => by rw [upd_ne z]; exact h4 hd⟩
end
/-! ### what is wanted of a result -/
def ErrAt (wd : World) (K : Fg) (mg : Str → Option Value) (F : Hp) (α : List Addr) (c : Str) (fs : List (Str × D)) (cls : Value) (dd : Option Addr) (H : Hp) : Prop :=
  mg c = some cls ∧ ((fs = [] ∧ dd = none) ∨ ∃ d xs, dd = some d ∧ F d = some (.xd xs) ∧ xs.map (·.1) = fs.map (·.1) ∧ DVs wd K mg F α (xs.map (·.2)) (fs.map (·.2)))
abbrev RelT (B A : Type) := Hp → List Addr → B → A → Prop
def wp {A B : Type} (wd : World) (K : Fg) (mg : Str → Option Value) (α : List Addr) (F H : Hp) (rel : RelT B A) (r : Res A) (Q : B → Hp → Prop) (W : XK) : Prop := match r with
  | .ok a S' => ∀ b H' β F', Rel wd K mg (α ++ β) F' H' S' → Stp α F H β F' H' → rel F' (α ++ β) b a → Q b H'
  | .err c fs S' => ∀ cls dd H' β F', Rel wd K mg (α ++ β) F' H' S' → Stp α F H β F' H' → ErrAt wd K mg F' (α ++ β) c fs cls dd H' → W cls dd H'
  | .stuck => False
section
variable {A B A' B' : Type} {wd : World} {K : Fg} {mg : Str → Option Value} {α β : List Addr} {F F1 H H1 : Hp} {S : Sto} {rel : RelT B A} {rel' : RelT B' A'} {r : Res A} {Q Q1 : B → Hp → Prop} {Q' : B' → Hp → Prop} {W : XK}
theorem wp.step (st : Stp α F H β F1 H1) (h : wp wd K mg α F H rel r Q W) : wp wd K mg (α ++ β) F1 H1 rel r Q W := by
  cases r with
  | ok a S' => intro b H' γ F' hr hs hv; rw [List.append_assoc] at hr hv; exact h b H' (β ++ γ) F' hr (st.trans hs) hv
  | err c fs S' => intro cls dd H' γ F' hr hs hv; rw [List.append_assoc] at hr hv; exact h cls dd H' (β ++ γ) F' hr (st.trans hs) hv
  | stuck => exact h
theorem wp.bind {f : A → Sto → Res A'} (h : wp wd K mg α F H rel' (r.bind f) Q' W)
    (k : ∀ a S1, r = .ok a S1 → ∀ x H1 β F1, Rel wd K mg (α ++ β) F1 H1 S1 → Stp α F H β F1 H1 → rel F1 (α ++ β) x a → wp wd K mg (α ++ β) F1 H1 rel' (f a S1) Q' W → Q1 x H1) : wp wd K mg α F H rel r Q1 W := by
  cases r with
  | ok a S' => exact fun b H' β F' hr hs hv => k a S' rfl b H' β F' hr hs hv (wp.step hs h)
  | err c fs S' => exact h
  | stuck => exact h
theorem wp.imp (h : wp wd K mg α F H rel r Q W) (k : ∀ b H', Q b H' → Q1 b H') : wp wd K mg α F H rel r Q1 W := by
  cases r with
  | ok a S' => exact fun b H' β F' hr hs hv => k b H' (h b H' β F' hr hs hv)
  | err c fs S' => exact h
  | stuck => exact h
/-- a result that is at hand -/
theorem wp.now {a : A} (h : wp wd K mg α F H rel (.ok a S) Q W) (hr : Rel wd K mg α F H S) {b : B} (hv : rel F α b a) : Q b H := by
  have e : α ++ [] = α := List.append_nil α
  exact h b H [] F (by rw [e]; exact hr) Stp.refl (by rw [e]; exact hv)
theorem wp.lift {o : Option A} (h : wp wd K mg α F H rel (.lift o S) Q W) : ∃ a, o = some a ∧ wp wd K mg α F H rel (.ok a S) Q W := by
  cases o with
  | some a => exact ⟨a, rfl, h⟩
  | none => exact h.elim
end
def Slots (wd : World) (K : Fg) (mg : Str → Option Value) (F : Hp) (α : List Addr) (σ : L2.St) (δ : Sl) : Prop :=
  σ.length = δ.length ∧ ∀ (i : Nat) (d : D), δ[i]? = some (some d) → ∃ v, σ[i]? = some (some v) ∧ DV wd K mg F α v d
theorem Slots.mono {wd : World} {K : Fg} {mg : Str → Option Value} {F F' : Hp} {α β : List Addr} {σ : L2.St} {δ : Sl} (h : Slots wd K mg F α σ δ) (s : Sub F F') : Slots wd K mg F' (α ++ β) σ δ :=
  ⟨h.1, fun i d e => let ⟨v, h1, h2⟩ := h.2 i d e; ⟨v, h1, h2.mono s⟩⟩
theorem Slots.set {wd : World} {K : Fg} {mg : Str → Option Value} {F : Hp} {α : List Addr} {σ : L2.St} {δ : Sl} {i : Nat} {v : V} {d : D} (h : Slots wd K mg F α σ δ) (hv : DV wd K mg F α v d) : Slots wd K mg F α (σ.set i (some v)) (δ.set i (some d)) := by
  refine ⟨by rw [List.length_set, List.length_set]; exact h.1, fun j e g => ?_⟩
  by_cases z : j = i
  · subst z
    have hj : j < δ.length := by
      have := (List.getElem?_eq_some_iff.mp g).1
      rw [List.length_set] at this; exact this
    rw [List.getElem?_set_self hj] at g
    cases g
    exact ⟨v, List.getElem?_set_self (by rw [h.1]; exact hj), hv⟩
  · rw [List.getElem?_set_ne (Ne.symm z)] at g
    rw [List.getElem?_set_ne (Ne.symm z)]
    exact h.2 j e g
def relD (wd : World) (K : Fg) (mg : Str → Option Value) : RelT V D := fun F α v d => DV wd K mg F α v d
def relB : RelT Bool Bool := fun _ _ b a => b = a
def relA (wd : World) (K : Fg) (mg : Str → Option Value) : RelT (List V) (List D) := fun F α v d => DVs wd K mg F α v d
def SndE (wd : World) (K : Fg) (mg : Str → Option Value) (W : WX) (t : TE) (r : RE) : Prop := ∀ α F σ H δ S (Q : VK), Rel wd K mg α F H S → Slots wd K mg F α σ δ → wp wd K mg α F H (relD wd K mg) (r δ S) Q (fun c d H' => W c d σ H') → t σ H Q
def SndB (wd : World) (K : Fg) (mg : Str → Option Value) (W : WX) (t : TT) (r : RB) : Prop := ∀ α F σ H δ S (Q : Bool → Hp → Prop), Rel wd K mg α F H S → Slots wd K mg F α σ δ → wp wd K mg α F H relB (r δ S) Q (fun c d H' => W c d σ H') → t σ H Q
def SndA (wd : World) (K : Fg) (mg : Str → Option Value) (W : WX) (t : TA) (r : RA) : Prop := ∀ α F σ H δ S (Q : List V → Hp → Prop), Rel wd K mg α F H S → Slots wd K mg F α σ δ → wp wd K mg α F H (relA wd K mg) (r δ S) Q (fun c d H' => W c d σ H') → t σ H Q
/-- an expression, a test, arguments by their mirrors -/
structure PD (X : Cx) (W : WX) (e : Expr) (r : RE) : Prop where
  ex : ∃ t, PE X e t ∧ SndE X.w X.K X.mg W t r
structure PB (X : Cx) (W : WX) (e : Expr) (r : RB) : Prop where
  ex : ∃ t, PT X e t ∧ SndB X.w X.K X.mg W t r
structure PBw (X : Cx) (W : WX) (e : Expr) (r : RB) : Prop where
  ex : ∃ t, PW X e t ∧ SndB X.w X.K X.mg W t r
structure PDs (X : Cx) (W : WX) (es : List Expr) (r : RA) : Prop where
  ex : ∃ t, PA X es t ∧ SndA X.w X.K X.mg W t r
  len : ∀ δ S ds S', r δ S = .ok ds S' → ds.length = es.length
section
variable {X : Cx} {W : WX} {a b c e : Expr} {es rest : List Expr} {ra rb rc : RE} {ba bb : RB} {rs : RA} {pos p : Pos}
theorem pd_var (i : Nat) {x : Str} {pos : Pos} (hN : X.N[i]? = some x := by rfl) (hv : Vis X.env.scope x := by first | exact Or.inl rfl | exact Or.inr (Or.inl rfl) | exact Or.inr (Or.inr rfl)) (hd : (x == ("__debug__" : Str)) = false := by decide) (hcd : (x == ("__classdict__" : Str)) = false := by decide) : PD X W (.Name x pos) (rVar i) := by
  refine ⟨tVar i, pe_var hN hv hd hcd, fun α F σ H δ S Q hr hs h => ?_⟩
  unfold rVar at h
  split at h
  · rename_i d e
    obtain ⟨v, h1, h2⟩ := hs.2 i d e
    exact ⟨v, h1, h.now hr h2⟩
  · exact h.elim
theorem pd_c {d : D} {v : V} (h : PE X e (tC v)) (hv : ∀ F α, DV X.w X.K X.mg F α v d) : PD X W e (rC d) := ⟨tC v, h, fun α F σ H δ S Q hr hs h => h.now hr (hv F α)⟩
theorem pd_int {i : Int} {j : Nat} : PD X W (.Constant (.int i) j pos) (rC (.int i)) := pd_c pe_int fun _ _ => .int i
theorem pd_bl {i : Bool} {j : Nat} : PD X W (.Constant (.bool i) j pos) (rC (.bl i)) := pd_c pe_bl fun _ _ => .bl i
theorem pd_non {j : Nat} : PD X W (.Constant .none j pos) (rC .non) := pd_c pe_non fun _ _ => .non
theorem pd_str {x : Str} {j : Nat} : PD X W (.Constant (.str x) j pos) (rC (.str x)) := pd_c pe_str fun _ _ => .str x
/-- a module's constant: an int, a text -/
theorem pd_gi {x : Str} {i : Int} {t : Tok} (hm : X.mg x = some (.int i t)) (hg : Gl X x := by rfl) (hd : (x == ("__debug__" : Str)) = false := by decide) : PD X W (.Name x pos) (rC (.int i)) := pd_c (v := .int i) (pe_glob hg hm ⟨t, rfl⟩ hd) fun _ _ => .int i
/-! operators by values -/
def OkG (X : Cx) (r : R2) (g : Sto → D → D → Option D) : Prop := ∀ α F H S (x y : V) (d e z : D) (Q : VK), Rel X.w X.K X.mg α F H S → DV X.w X.K X.mg F α x d → DV X.w X.K X.mg F α y e → g S d e = some z →
  (∀ v H' β F', Rel X.w X.K X.mg (α ++ β) F' H' S → Stp α F H β F' H' → DV X.w X.K X.mg F' (α ++ β) v z → Q v H') → r x y H Q
structure OpG (X : Cx) (f : Value → Value → Sem Value) (g : Sto → D → D → Option D) : Prop where
  ex : ∃ r, OpR X f r ∧ OkG X r g
theorem SndE.bin {wd : World} {K : Fg} {mg : Str → Option Value} {ta tb : TE} {g : Sto → D → D → Option D} {k : V → V → Hp → VK → Prop} (sa : SndE wd K mg W ta ra) (sb : SndE wd K mg W tb rb)
    (hk : ∀ α F H S (x y : V) (d e z : D) (Q : VK), Rel wd K mg α F H S → DV wd K mg F α x d → DV wd K mg F α y e → g S d e = some z →
      (∀ v H' β F', Rel wd K mg (α ++ β) F' H' S → Stp α F H β F' H' → DV wd K mg F' (α ++ β) v z → Q v H') → k x y H Q) :
    SndE wd K mg W (fun σ H Q => ta σ H fun x H1 => tb σ H1 fun y H2 => k x y H2 Q) (rBin g ra rb) := by
  intro α F σ H δ S Q hr hs h
  refine sa α F σ H δ S _ hr hs (wp.bind h fun d S1 _ x H1 β F1 r1 s1 v1 h1 => ?_)
  refine sb (α ++ β) F1 σ H1 δ S1 _ r1 (hs.mono s1.sub) (wp.bind h1 fun e S2 _ y H2 γ F2 r2 s2 v2 h2 => ?_)
  obtain ⟨z, e1, h3⟩ := wp.lift h2
  exact hk (α ++ β ++ γ) F2 H2 S2 x y d e z Q r2 (v1.mono s2.sub) v2 e1 fun v H' ε F' r3 s3 v3 => h3 v H' ε F' r3 s3 v3
theorem pd_bin {op : Operator} {g : Sto → D → D → Option D} (ho : OpG X (binaryOp op) g) (ha : PD X W a ra) (hb : PD X W b rb) : PD X W (.BinOp a op b pos) (rBin g ra rb) := by
  obtain ⟨r, h1, h2⟩ := ho.ex
  obtain ⟨ta, pa, sa⟩ := ha.ex
  obtain ⟨tb, pb, sb⟩ := hb.ex
  exact ⟨_, pe_op h1 pa pb, sa.bin sb h2⟩
theorem pd_cmp {op : CmpOp} {g : Sto → D → D → Option D} (ho : OpG X (compareOp op) g) (ha : PD X W a ra) (hb : PD X W b rb) (hm : behindInMarks op b = false) : PD X W (.Compare a [op] [b] pos) (rBin g ra rb) := by
  obtain ⟨r, h1, h2⟩ := ho.ex
  obtain ⟨ta, pa, sa⟩ := ha.ex
  obtain ⟨tb, pb, sb⟩ := hb.ex
  exact ⟨_, pe_cmpR h1 pa pb hm, sa.bin sb h2⟩
/-- the truth of a True or False -/
def bVal (a : RE) : RB := fun δ S => (a δ S).bind fun x S1 => match x with
  | .bl b => .ok b S1
  | _ => .stuck
theorem SndE.val {wd : World} {K : Fg} {mg : Str → Option Value} {t : TE} (s : SndE wd K mg W t ra) : SndB wd K mg W (tTest t) (bVal ra) := by
  intro α F σ H δ S Q hr hs h
  refine s α F σ H δ S _ hr hs (wp.bind h fun d S1 _ x H1 β F1 r1 s1 v1 h1 => ?_)
  cases d with
  | bl b => cases v1; exact ⟨b, rfl, h1.now r1 rfl⟩
  | _ => exact h1.elim
theorem pb_cmp {op : CmpOp} {g : Sto → D → D → Option D} (ho : OpG X (compareOp op) g) (ha : PD X W a ra) (hb : PD X W b rb) (hm : behindInMarks op b = false) : PB X W (.Compare a [op] [b] pos) (bVal (rBin g ra rb)) := by
  obtain ⟨r, h1, h2⟩ := ho.ex
  obtain ⟨ta, pa, sa⟩ := ha.ex
  obtain ⟨tb, pb, sb⟩ := hb.ex
  exact ⟨_, pt_cmpR h1 pa pb hm, (sa.bin sb h2).val⟩
end
end DL
set_option Elab.async false
set_option linter.all false
set_option maxRecDepth 100000
set_option maxHeartbeats 4000000
set_option autoImplicit false
/-! Data layer, third part: calls, tests, statements, loops, comprehensions, defs. -/
namespace DL
open PySem PySem.Spec PyProof.Rows L2
section
variable {X : Cx} {W : WX} {a b c e : Expr} {es rest : List Expr} {ra rb rc : RE} {ba bb : RB} {rs : RA} {pos p : Pos} {wd : World} {K : Fg} {mg : Str → Option Value}
/-! ### one value -/
def OkU (X : Cx) (r : V → Hp → VK → Prop) (g : Sto → D → Option D) : Prop := ∀ α F H S (x : V) (d z : D) (Q : VK), Rel X.w X.K X.mg α F H S → DV X.w X.K X.mg F α x d → g S d = some z →
  (∀ v H' β F', Rel X.w X.K X.mg (α ++ β) F' H' S → Stp α F H β F' H' → DV X.w X.K X.mg F' (α ++ β) v z → Q v H') → r x H Q
theorem SndE.un {ta : TE} {g : Sto → D → Option D} {k : V → Hp → VK → Prop} (sa : SndE wd K mg W ta ra)
    (hk : ∀ α F H S (x : V) (d z : D) (Q : VK), Rel wd K mg α F H S → DV wd K mg F α x d → g S d = some z → (∀ v H' β F', Rel wd K mg (α ++ β) F' H' S → Stp α F H β F' H' → DV wd K mg F' (α ++ β) v z → Q v H') → k x H Q) :
    SndE wd K mg W (fun σ H Q => ta σ H fun x H1 => k x H1 Q) (rUn g ra) := by
  intro α F σ H δ S Q hr hs h
  refine sa α F σ H δ S _ hr hs (wp.bind h fun d S1 _ x H1 β F1 r1 s1 v1 h1 => ?_)
  obtain ⟨z, e1, h3⟩ := wp.lift h1
  exact hk (α ++ β) F1 H1 S1 x d z Q r1 v1 e1 fun v H' ε F' r3 s3 v3 => h3 v H' ε F' r3 s3 v3
theorem pd_un {op : UnaryOp} {r : V → Hp → VK → Prop} {g : Sto → D → Option D} (ho : UnR X (unaryOp op) r) (hg : OkU X r g) (ha : PD X W a ra) : PD X W (.UnaryOp op a pos) (rUn g ra) := by
  obtain ⟨ta, pa, sa⟩ := ha.ex
  exact ⟨_, pe_un ho pa, sa.un hg⟩
/-! ### arguments, displays -/
theorem pds_nil : PDs X W [] rNil := ⟨⟨tNil, pa_nil, fun α F σ H δ S Q hr hs h => h.now hr .nil⟩, fun δ S ds S' h => by cases h; rfl⟩
theorem SndE.cons {te : TE} {t : TA} (s1 : SndE wd K mg W te ra) (s2 : SndA wd K mg W t rs) : SndA wd K mg W (tCons te t) (rCons ra rs) := by
  intro α F σ H δ S Q hr hs h
  refine s1 α F σ H δ S _ hr hs (wp.bind h fun d S1 _ x H1 β F1 r1 q1 v1 h1 => ?_)
  refine s2 (α ++ β) F1 σ H1 δ S1 _ r1 (hs.mono q1.sub) (wp.bind h1 fun e S2 _ y H2 γ F2 r2 q2 v2 h2 => ?_)
  exact h2.now r2 (.cons (v1.mono q2.sub) v2)
theorem pds_cons (ha : PD X W e ra) (hr : PDs X W es rs) (hs : starEach (e :: es) X.env = (false, eval e X.env) :: starEach es X.env := by rfl) : PDs X W (e :: es) (rCons ra rs) := by
  obtain ⟨ta, pa, sa⟩ := ha.ex
  obtain ⟨t, pt, st⟩ := hr.ex
  refine ⟨⟨_, pa_cons pa pt hs, sa.cons st⟩, fun δ S ds S' h => ?_⟩
  unfold rCons at h
  cases q : ra δ S with
  | ok d S1 =>
    rw [q] at h
    have h' : (rs δ S1).bind (fun ys S2 => .ok (d :: ys) S2) = .ok ds S' := h
    cases q2 : rs δ S1 with
    | ok ys S2 =>
      rw [q2] at h'
      have h2 : Res.ok (d :: ys) S2 = .ok ds S' := h'
      cases h2
      rw [List.length_cons, List.length_cons, hr.len _ _ _ _ q2]
    | err c fs S2 => rw [q2] at h'; cases h'
    | stuck => rw [q2] at h'; cases h'
  | err c fs S1 => rw [q] at h; cases h
  | stuck => rw [q] at h; cases h
/-- a new tuple, a new list at p -/
theorem PlT.new {K : Fg} {F : Hp} {p : Addr} {xs : List V} {o : Obj} (h : o.dict = none) : PlT K (upd F p (.frz o (.tup xs))) p xs := ⟨.inl (.inr ⟨o, upd_same⟩), .inl ⟨o, upd_same, h⟩⟩
theorem Rel.tup {α : List Addr} {F H : Hp} {S : Sto} {xs : List V} {ds : List D} (hr : Rel wd K mg α F H S) (hv : DVs wd K mg F α xs ds) {p : Addr} {o : Obj} (hp : H p = none) (ho : o.dict = none) : Rel wd K mg (α ++ []) (upd F p (.frz o (.tup xs))) (upd H p (.frz o (.tup xs))) S ∧ Stp α F H [] (upd F p (.frz o (.tup xs))) (upd H p (.frz o (.tup xs))) ∧ DV wd K mg (upd F p (.frz o (.tup xs))) (α ++ []) (.ref p) (.tup ds) := by
  obtain ⟨h1, h2⟩ := hr.newF (o := .frz o (.tup xs)) hp
  exact ⟨h1, h2, .tup (PlT.new ho) (hv.mono h2.sub)⟩
theorem Rel.lst {α : List Addr} {F H : Hp} {S : Sto} {xs : List V} {ds : List D} (hr : Rel wd K mg α F H S) (hv : DVs wd K mg F α xs ds) {p : Addr} (hp : H p = none) : Rel wd K mg (α ++ []) (upd F p (.lst xs)) (upd H p (.lst xs)) S ∧ Stp α F H [] (upd F p (.lst xs)) (upd H p (.lst xs)) ∧ DV wd K mg (upd F p (.lst xs)) (α ++ []) (.ref p) (.lst ds) := by
  obtain ⟨h1, h2⟩ := hr.newF (o := .lst xs) hp
  exact ⟨h1, h2, .lst (.inl (Rd.of upd_same)) (hv.mono h2.sub)⟩
theorem pd_tup {x1 : Nat} (h : PDs X W es rs) : PD X W (.Tuple es x1 pos) (rTup rs) := by
  obtain ⟨t, pt, st⟩ := h.ex
  refine ⟨_, pe_tupP pt, fun α F σ H δ S Q hr hs h => ?_⟩
  refine st α F σ H δ S _ hr hs (wp.bind h fun ds S1 _ xs H1 β F1 r1 q1 v1 h1 => ?_)
  split at h1
  · rename_i hl
    refine ⟨by rw [v1.length]; exact hl, fun q hq o ho => ?_⟩
    obtain ⟨a1, a2, a3⟩ := r1.tup v1 hq ho
    exact h1 _ _ _ _ a1 a2 a3
  · exact h1.elim
/-- a thing that is made, at p: it may stand for good, or be the store's -/
def wpF (wd : World) (K : Fg) (mg : Str → Option Value) (α : List Addr) (F H : Hp) (r : Res D) (Q : VK) (W : XK) : Prop := match r with
  | .ok d S' => ∀ p H' β F', Rel wd K mg (α ++ β) F' H' S' → Stp α F H β F' H' → H p = none → p ∉ α ++ β → F' p = none → Own wd K mg F' (α ++ β) H' p d → d.open = true → Q (.ref p) H'
  | .err c fs S' => ∀ cls dd H' β F', Rel wd K mg (α ++ β) F' H' S' → Stp α F H β F' H' → ErrAt wd K mg F' (α ++ β) c fs cls dd H' → W cls dd H'
  | .stuck => False
theorem wpF.step {α β : List Addr} {F H F1 H1 : Hp} {r : Res D} {Q : VK} {W : XK} (st : Stp α F H β F1 H1) (h : wpF wd K mg α F H r Q W) : wpF wd K mg (α ++ β) F1 H1 r Q W := by
  cases r with
  | ok d S' =>
    intro p H' γ F' hr hs hp ha hf ho hd
    rw [List.append_assoc] at hr ha ho
    exact h p H' (β ++ γ) F' hr (st.trans hs) (st.live p hp) ha hf ho hd
  | err c fs S' => intro cls dd H' γ F' hr hs hv; rw [List.append_assoc] at hr hv; exact h cls dd H' (β ++ γ) F' hr (st.trans hs) hv
  | stuck => exact h
structure PF (X : Cx) (W : WX) (e : Expr) (r : RE) : Prop where
  ex : ∃ t, PE X e t ∧ ∀ α F σ H δ S (Q : VK), Rel X.w X.K X.mg α F H S → Slots X.w X.K X.mg F α σ δ → wpF X.w X.K X.mg α F H (r δ S) Q (fun c d H' => W c d σ H') → t σ H Q
theorem wpF.bind {A B : Type} {α : List Addr} {F H : Hp} {rel : RelT B A} {r : Res A} {f : A → Sto → Res D} {Q : VK} {Q1 : B → Hp → Prop} {W : XK} (h : wpF wd K mg α F H (r.bind f) Q W)
    (k : ∀ a S1, r = .ok a S1 → ∀ x H1 β F1, Rel wd K mg (α ++ β) F1 H1 S1 → Stp α F H β F1 H1 → rel F1 (α ++ β) x a → wpF wd K mg (α ++ β) F1 H1 (f a S1) Q W → Q1 x H1) : wp wd K mg α F H rel r Q1 W := by
  cases r with
  | ok a S' => exact fun b H' β F' hr hs hv => k a S' rfl b H' β F' hr hs hv (wpF.step hs h)
  | err c fs S' => exact h
  | stuck => exact h
/-- a new list, laid now -/
theorem wpF.lay {α : List Addr} {F H : Hp} {S : Sto} {Q : VK} {W : XK} {p : Addr} {o : HO} {d : D} (h : wpF wd K mg α F H (.ok d S) Q W) (hr : Rel wd K mg α F H S) (hp : H p = none) (ho : Own wd K mg F α (upd H p o) p d) (hd : d.open = true) : Q (.ref p) (upd H p o) := by
  have e : α ++ [] = α := List.append_nil α
  have n := hr.notin hp
  have f := hr.notF hp
  exact h p _ [] F (by rw [e]; exact hr.other n f) (Stp.refl.other hp) hp (by rw [e]; exact n) f (by rw [e]; exact ho) hd
theorem pd_own (h : PF X W e ra) : PD X W e (rOwn ra) := by
  obtain ⟨t, pt, st⟩ := h.ex
  refine ⟨t, pt, fun α F σ H δ S Q hr hs h => st α F σ H δ S Q hr hs ?_⟩
  unfold rOwn at h
  cases q : ra δ S with
  | ok d S' =>
    rw [q] at h
    intro p H' β F' r1 s1 hp ha hf ho hd
    have h2 : wp X.w X.K X.mg α F H (relD X.w X.K X.mg) (.ok (.ptr S'.length) (S' ++ [d])) Q _ := h
    refine h2 (.ref p) H' (β ++ [p]) F' ?_ ⟨fun b hb => ?_, s1.sub, s1.frame, s1.live, s1.fnew⟩ ?_
    · rw [← List.append_assoc]
      exact r1.adopt ha hf ho hd
    · rcases List.mem_append.mp hb with z | z
      · exact s1.new b z
      · have : b = p := by simpa using z
        rw [this]; exact hp
    · rw [← List.append_assoc]
      refine .ptr ?_
      rw [List.getElem?_append_right (by rw [r1.len]; exact Nat.le_refl _), r1.len, Nat.sub_self] <;> rfl
  | err c fs S' => rw [q] at h; exact h
  | stuck => rw [q] at h; exact h
/-- a list that stands for good -/
def rKeep (a : RE) : RE := fun δ S => (a δ S).bind fun d S1 => match d with
  | .lst ds => .ok (.lst ds) S1
  | _ => .stuck
theorem pd_keep (h : PF X W e ra) : PD X W e (rKeep ra) := by
  obtain ⟨t, pt, st⟩ := h.ex
  refine ⟨t, pt, fun α F σ H δ S Q hr hs h => st α F σ H δ S Q hr hs ?_⟩
  unfold rKeep at h
  cases q : ra δ S with
  | ok d S' =>
    rw [q] at h
    intro p H' β F' r1 s1 hp ha hf ho hd
    cases d with
    | lst ds =>
      have h2 : wp X.w X.K X.mg α F H (relD X.w X.K X.mg) (.ok (.lst ds) S') Q _ := h
      obtain ⟨xs, o1, o2⟩ := ho
      obtain ⟨a1, a2⟩ := r1.freeze (o := .lst xs) ha hf o1
      exact h2 (.ref p) H' β (upd F' p (.lst xs)) a1 ⟨s1.new, s1.sub.trans a2, s1.frame, s1.live, fun a g1 g2 g3 => by
        have z : a ≠ p := fun z => g3 (z ▸ hp)
        rw [upd_ne z]; exact s1.fnew a g1 g2 g3⟩ (.lst (.inl (Rd.of upd_same)) (by have := o2.mono (β := []) a2; rw [List.append_nil] at this; exact this))
    | _ => exact (show False from h).elim
  | err c fs S' => rw [q] at h; exact h
  | stuck => rw [q] at h; exact h
theorem pf_lst (h : PDs X W es rs) : PF X W (.List es pos) (rLst rs) := by
  obtain ⟨t, pt, st⟩ := h.ex
  refine ⟨_, pe_lst pt, fun α F σ H δ S Q hr hs h => ?_⟩
  refine st α F σ H δ S _ hr hs (wpF.bind h fun ds S1 _ xs H1 β F1 r1 q1 v1 h1 => ?_)
  split at h1
  · rename_i hl
    refine ⟨by rw [v1.length]; exact hl, fun p hp => h1.lay r1 hp ⟨xs, upd_same, v1⟩ rfl⟩
  · exact h1.elim
/-! ### calls -/
def spD (wd : World) (K : Fg) (mg : Str → Option Value) (n : Nat) (m : Mir) : Sp := fun vs H Q E => vs.length = n ∧ ∃ α F S ds, Rel wd K mg α F H S ∧ DVs wd K mg F α vs ds ∧ wp wd K mg α F H (relD wd K mg) (m ds S) Q E
/-- a def that keeps its promise where no repr is under way -/
structure FnG (P : Program) (w : World) (K : Fg) (mg : Str → Option Value) (base : Heap) (k : Nat) (f : Addr) (fd : FuncData) (ps : List Str) (sp : Sp) : Prop where
  len : ∀ vs H Q E, sp vs H Q E → vs.length = ps.length
  run : ∀ (A : Around) (outer : List Env) (s : Shared) (H : Hp) (args : Args) (us : List Value) (vs : List V) (Q : VK) (E : XK), Room k A → A.guards = some [] → Env0 P w K mg base A outer s H → BindsTo s fd args (ps.zip us) → Vals vs us → sp vs H Q E → codeAny (model P w) A (.call (.ref f) args) (CR (L2.CX P w) outer P w H s Q E) s
theorem FnG.call {k : Nat} {f : Addr} {fd : FuncData} {ps : List Str} {sp : Sp} {pins : List (Addr × Obj)} {σ : L2.St} {H : Hp} {s : Shared} {Q : VK} {us : List Value} {vs : List V} (F : FnG X.prog X.w X.K X.mg X.base k f fd ps sp) (hr : Room k X.A) (hG : X.A.guards = some []) (hb : Binds X.K fd ps []) (tk : Takes X W)
    (I : Inv X pins σ H s) (r : Vals vs us) (h : sp vs H Q (WE W σ)) : wpAny (model X.prog X.w) X.A (call (.ref f) us) (EP X pins σ Q) X.xe s := by
  have hl := r.length.symm.trans (F.len vs H Q _ h)
  have b : BindsTo s fd ⟨us, []⟩ (ps.zip us) := by simpa only [List.append_nil] using hb s us I.kIn (by simpa only [List.append_nil] using hl)
  refine wpAny_call (codeAny_mono (F.run _ _ s H _ us vs Q _ hr hG I.env0 b r h) ?_)
  intro res s' q
  cases res with
  | error e => exact passAt tk σ pins H s e s' I q
  | ok fl => cases fl with
    | ret u => exact I.after q
    | next => exact q.elim
    | brk => exact q.elim
    | cont => exact q.elim
theorem pd_call {x : Str} {m : Mir} {n k : Nat} {f : Addr} {fd : FuncData} {ps : List Str} (F : FnG X.prog X.w X.K X.mg X.base k f fd ps (spD X.w X.K X.mg n m)) (hr : Room k X.A) (hG : X.A.guards = some []) (hm : X.mg x = some (.ref f)) (hk : PySem.W.keepIn X.K (.ref f) = true)
    (hb : Binds X.K fd ps []) (tk : Takes X W) (ha : PDs X W (e :: es) rs) (hl : (e :: es).length = n := by rfl) (hg : Gl X x := by rfl) (hdb : (x == ("__debug__" : Str)) = false := by decide)
    (he : starEach (e :: es) X.env = (false, eval e X.env) :: starEach es X.env := by rfl) (hpl : (backTo pos (starEach es X.env)).any (·.1) = false := by rfl) :
    PD X W (.Call (.Name x p) (e :: es) [] pos) (rCall m rs) := by
  obtain ⟨t, pt, st⟩ := ha.ex
  refine ⟨tCallS (spD X.w X.K X.mg n m) (WE W) t, ⟨fun pins s σ H Q I h => wpAny_Call_Name_kw (ld_glob I hg hm ?_ hdb)⟩, fun α F σ H δ S Q hr hs h => ?_⟩
  · exact PySem.W.callWith_K (h₀ := X.base) I.ok.mod.kin hk (thn (pt.run pos pins s σ H _ I h) fun us s1 ⟨vs, H1, I1, r, q⟩ => ⟨I1.kIn, F.call hr hG hb tk I1 r q⟩) he hpl
  · refine st α F σ H δ S _ hr hs (wp.bind h fun ds S1 e1 xs H1 β F1 r1 q1 v1 h1 => ?_)
    exact ⟨by rw [v1.length, ha.len _ _ _ _ e1]; exact hl, α ++ β, F1, S1, ds, r1, v1, h1⟩
end
end DL
set_option Elab.async false
set_option linter.all false
set_option maxRecDepth 100000
set_option maxHeartbeats 4000000
set_option autoImplicit false
/-! Data layer, fourth part: tests, targets, statements, loops, comprehensions, defs. -/
namespace DL
open PySem PySem.Spec PyProof.Rows L2
section
variable {X : Cx} {W : WX} {a b c e : Expr} {es rest : List Expr} {ra rb rc : RE} {ba bb : RB} {rs : RA} {pos p : Pos} {wd : World} {K : Fg} {mg : Str → Option Value} {α β : List Addr} {F H : Hp} {S : Sto}
/-! ### built-in things by their values -/
def OkC (X : Cx) (r : List V → Hp → VK → Prop) (g : Sto → List D → Option D) : Prop := ∀ α F H S (xs : List V) (ds : List D) (z : D) (Q : VK), Rel X.w X.K X.mg α F H S → DVs X.w X.K X.mg F α xs ds → g S ds = some z →
  (∀ v H' β F', Rel X.w X.K X.mg (α ++ β) F' H' S → Stp α F H β F' H' → DV X.w X.K X.mg F' (α ++ β) v z → Q v H') → r xs H Q
theorem SndA.app {t : TA} {g : Sto → List D → Option D} {k : List V → Hp → VK → Prop} (sa : SndA wd K mg W t rs)
    (hk : ∀ α F H S (xs : List V) (ds : List D) (z : D) (Q : VK), Rel wd K mg α F H S → DVs wd K mg F α xs ds → g S ds = some z → (∀ v H' β F', Rel wd K mg (α ++ β) F' H' S → Stp α F H β F' H' → DV wd K mg F' (α ++ β) v z → Q v H') → k xs H Q) :
    SndE wd K mg W (fun σ H Q => t σ H fun xs H1 => k xs H1 Q) (rAs g rs) := by
  intro α F σ H δ S Q hr hs h
  refine sa α F σ H δ S _ hr hs (wp.bind h fun d S1 _ x H1 β F1 r1 s1 v1 h1 => ?_)
  obtain ⟨z, e1, h3⟩ := wp.lift h1
  exact hk (α ++ β) F1 H1 S1 x d z Q r1 v1 e1 fun v H' ε F' r3 s3 v3 => h3 v H' ε F' r3 s3 v3
/-- a built-in by its name, a class by its name -/
structure BiG (X : Cx) (f : Value) (g : Sto → List D → Option D) : Prop where
  ex : ∃ r, CallR X f r ∧ OkC X r g
theorem pd_callB {x : Str} {id : String} {g : Sto → List D → Option D} (hc : BiG X (.builtin id) g) (hm : X.mg x = none) (ha : PDs X W (e :: es) rs) (hg : Gl X x := by rfl) (hv : bootBuiltins x = some (.builtin id) := by decide +kernel) (hn : x ≠ "__name__" := by decide) (hdb : (x == ("__debug__" : Str)) = false := by decide)
    (he : starEach (e :: es) X.env = (false, eval e X.env) :: starEach es X.env := by rfl) (hpl : (backTo pos (starEach es X.env)).any (·.1) = false := by rfl) : PD X W (.Call (.Name x p) (e :: es) [] pos) (rAs g rs) := by
  obtain ⟨r, h1, h2⟩ := hc.ex
  obtain ⟨t, pt, st⟩ := ha.ex
  exact ⟨_, pe_callB h1 hg hm hv pt hn hdb he hpl, st.app h2⟩
theorem pd_callT {x : Str} {T : String} {g : Sto → List D → Option D} (hc : BiG X (.type T) g) (hm : X.mg x = none) (ha : PDs X W (e :: es) rs) (hg : Gl X x := by rfl) (hv : bootBuiltins x = some (.type T) := by decide +kernel) (hn : x ≠ "__name__" := by decide) (hdb : (x == ("__debug__" : Str)) = false := by decide)
    (he : starEach (e :: es) X.env = (false, eval e X.env) :: starEach es X.env := by rfl) (hpl : (backTo pos (starEach es X.env)).any (·.1) = false := by rfl) : PD X W (.Call (.Name x p) (e :: es) [] pos) (rAs g rs) := by
  obtain ⟨r, h1, h2⟩ := hc.ex
  obtain ⟨t, pt, st⟩ := ha.ex
  exact ⟨_, pe_callTy h1 hg hm hv pt hn hdb he hpl, st.app h2⟩
/-! ### what is seen through the store -/
/-- an owned thing, by what it holds -/
theorem Rel.owned (hr : Rel wd K mg α F H S) {k : Nat} {a : Addr} (h : α[k]? = some a) : S[k]? = some (S.getD k .non) ∧ Own wd K mg F α H a (S.getD k .non) ∧ ((S.getD k .non).open = true → F a = none) := by
  have hk : k < S.length := by rw [← hr.len]; exact (List.getElem?_eq_some_iff.mp h).1
  have e2 : S[k]? = some (S.getD k .non) := by rw [List.getD_eq_getElem?_getD]; simp [hk]
  exact ⟨e2, hr.own k a _ h e2⟩
inductive Seen (wd : World) (K : Fg) (mg : Str → Option Value) (F : Hp) (α : List Addr) (H : Hp) : V → D → Prop
  | at {v : V} {d : D} : DV wd K mg F α v d → (∀ k, d ≠ .ptr k) → Seen wd K mg F α H v d
  | dead {v : V} {k : Nat} : Seen wd K mg F α H v (.ptr k)
  | lst {a : Addr} {xs : List V} {ds : List D} : H a = some (.lst xs) → DVs wd K mg F α xs ds → Seen wd K mg F α H (.ref a) (.lst ds)
  | dct {a : Addr} {ws : List (Key × V)} {kvs : List (D × D)} : Rd H a (.dK ws) → DKs (ws.map (·.1)) (kvs.map (·.1)) → DVs wd K mg F α (ws.map (·.2)) (kvs.map (·.2)) → Seen wd K mg F α H (.ref a) (.dct kvs)
  | dcn {a : Addr} {xs : List (NestedKey × Addr × V)} {kvs : List (D × D)} : Rd H a (dN wd a xs) → NVs wd K mg F α xs kvs → Seen wd K mg F α H (.ref a) (.dcn kvs)
theorem Rel.see (hr : Rel wd K mg α F H S) {v : V} {d : D} (h : DV wd K mg F α v d) : Seen wd K mg F α H v (deref S d) := by
  cases d with
  | ptr k =>
    cases h with
    | ptr h =>
      obtain ⟨_, o, _⟩ := hr.owned h
      unfold deref
      dsimp only
      generalize hd : S.getD k .non = d at o
      cases d with
      | lst ds => obtain ⟨xs, h1, h2⟩ := o; exact .lst h1 h2
      | dct kvs => obtain ⟨ws, h1, h2, h3⟩ := o; exact .dct (.inl h1) h2 h3
      | dcn kvs => obtain ⟨ws, h1, h2⟩ := o; exact .dcn (.inl h1) h2
      | lck u =>
        cases u with
        | dct kvs => obtain ⟨o, ws, h0, h1, h2, h3⟩ := o; exact .dct (.inr ⟨o, h1⟩) h2 h3
        | dcn kvs => obtain ⟨o, ws, h0, h1, h2⟩ := o; exact .dcn (.inr ⟨o, h1⟩) h2
        | _ => exact o.elim
      | non => exact .dead
      | lam _ _ _ _ _ => exact .dead
      | _ => exact o.elim
  | _ => exact .at h (fun k e => by cases e)
theorem Rel.viewL (hr : Rel wd K mg α F H S) {v : V} {d : D} {ds : List D} (h : DV wd K mg F α v d) (e : deref S d = .lst ds) : ∃ a xs, v = .ref a ∧ SqL K H a xs ∧ DVs wd K mg F α xs ds := by
  have s := hr.see h
  rw [e] at s
  cases s with
  | «at» h _ => cases h with | lst q t => exact ⟨_, _, rfl, hr.sub.sqL q, t⟩
  | lst q t => exact ⟨_, _, rfl, .inl (Rd.of q), t⟩
theorem Rel.viewT (hr : Rel wd K mg α F H S) {v : V} {d : D} {ds : List D} (h : DV wd K mg F α v d) (e : deref S d = .tup ds) : ∃ a xs, v = .ref a ∧ SqT K H a xs ∧ DVs wd K mg F α xs ds := by
  have s := hr.see h
  rw [e] at s
  cases s with
  | «at» h _ => cases h with | tup q t => exact ⟨_, _, rfl, hr.sub.sqT q.1, t⟩
theorem Rel.viewX (hr : Rel wd K mg α F H S) {v : V} {d : D} {ds : List D} (h : DV wd K mg F α v d) (e : deref S d = .tux ds) : ∃ a xs, v = .ref a ∧ SqT K H a xs ∧ DVs wd K mg F α xs ds := by
  have s := hr.see h
  rw [e] at s
  cases s with
  | «at» h _ => cases h with | tux q t => exact ⟨_, _, rfl, hr.sub.sqT q, t⟩
theorem Rel.viewI (hr : Rel wd K mg α F H S) {v : V} {d : D} {i : Int} (h : DV wd K mg F α v d) (e : deref S d = .int i) : v = .int i := by
  have s := hr.see h
  rw [e] at s
  cases s with
  | «at» h _ => cases h; rfl
theorem Rel.viewS (hr : Rel wd K mg α F H S) {v : V} {d : D} {i : Str} (h : DV wd K mg F α v d) (e : deref S d = .str i) : v = .str i := by
  have s := hr.see h
  rw [e] at s
  cases s with
  | «at» h _ => cases h; rfl
theorem DVs.isEmpty {xs : List V} {ds : List D} (h : DVs wd K mg F α xs ds) : ds.isEmpty = xs.isEmpty := by cases h <;> rfl
theorem Rel.truV (hr : Rel wd K mg α F H S) {v : V} {d : D} {k : Bool} (h : DV wd K mg F α v d) (e : truth S d = some k) : TruV K v H k := by
  have s := hr.see h
  unfold truth at e
  generalize deref S d = dd at e s
  cases s with
  | «at» h hp =>
    cases h with
    | non => cases e; rfl
    | bl b => cases e; rfl
    | int i => cases e; rfl
    | str x =>
      dsimp only at e
      split at e
      · rename_i hl; cases e; exact ⟨hl, rfl⟩
      · cases e
    | tup q t => cases e; exact .inr (.inl ⟨_, hr.sub.sqT q.1, by rw [t.isEmpty]⟩)
    | tux q t => cases e
    | lst q t => cases e; exact .inl ⟨_, hr.sub.sqL q, by rw [t.isEmpty]⟩
    | ptr _ => exact absurd rfl (hp _)
    | fn _ => cases e
    | ty _ => cases e
    | exc _ _ _ _ _ => cases e
    | dc0 _ _ => cases e
    | lam _ _ => cases e
  | dead => cases e
  | lst q t => cases e; exact .inl ⟨_, SqL.of q, by rw [t.isEmpty]⟩
  | dct h k t => cases e
  | dcn h t => cases e
/-! ### tests -/
theorem pb_tru (ha : PD X W a ra) (he : ∀ whole, isTrue a X.env whole = (do let v ← whole; standAt a.pos; holding [v] (truthy v)) := by intro _; rfl) : PB X W a (bTru ra) := by
  obtain ⟨ta, pa, sa⟩ := ha.ex
  refine ⟨_, pt_truth pa he, fun α F σ H δ S Q hr hs h => ?_⟩
  refine sa α F σ H δ S _ hr hs (wp.bind h fun d S1 _ x H1 β F1 r1 s1 v1 h1 => ?_)
  obtain ⟨k, e1, h2⟩ := wp.lift h1
  exact ⟨k, r1.truV v1 e1, h2.now r1 rfl⟩
theorem SndB.or {t u : TT} (s1 : SndB wd K mg W t ba) (s2 : SndB wd K mg W u bb) : SndB wd K mg W (tOr t u) (bOr ba bb) := by
  intro α F σ H δ S Q hr hs h
  refine s1 α F σ H δ S _ hr hs (wp.bind h fun d S1 _ x H1 β F1 r1 q1 v1 h1 => ?_)
  have e : x = d := v1
  subst e
  cases x with
  | false => exact s2 (α ++ β) F1 σ H1 δ S1 Q r1 (hs.mono q1.sub) h1
  | true => exact h1.now r1 rfl
theorem pw_or1D (ha : PB X W a ba) : PBw X W (.BoolOp .Or [a] pos) ba := let ⟨t, h, s⟩ := ha.ex; ⟨t, pw_or1 h, s⟩
theorem pw_orD (ha : PB X W a ba) (hb : PBw X W (.BoolOp .Or (b :: rest) pos) bb) : PBw X W (.BoolOp .Or (a :: b :: rest) pos) (bOr ba bb) := by
  obtain ⟨t, h1, s1⟩ := ha.ex
  obtain ⟨u, h2, s2⟩ := hb.ex
  exact ⟨_, pw_or h1 h2, s1.or s2⟩
theorem pb_w (h : PBw X W a ba) : PB X W a ba := let ⟨t, p, s⟩ := h.ex; ⟨t, p.pt, s⟩
theorem pb_not (ha : PB X W a ba) : PB X W (.UnaryOp .Not a pos) (bNot ba) := by
  obtain ⟨t, h, s⟩ := ha.ex
  refine ⟨_, pt_not h, fun α F σ H δ S Q hr hs h => ?_⟩
  refine s α F σ H δ S _ hr hs (wp.bind h fun d S1 _ x H1 β F1 r1 q1 v1 h1 => ?_)
  have e : x = d := v1
  subst e
  exact h1.now r1 rfl
/-- a < b <= c -/
def rChain (g g' : Sto → D → D → Option D) (ra rb rc : RE) : RE := fun δ S => (ra δ S).bind fun x S1 => (rb δ S1).bind fun y S2 => (Res.lift (g S2 x y) S2).bind fun z S3 => match z with
  | .bl true => (rc δ S3).bind fun u S4 => .lift (g' S4 y u) S4
  | .bl false => .ok (.bl false) S3
  | _ => .stuck
theorem pd_chain2 {op op' : CmpOp} {g g' : Sto → D → D → Option D} (ho : OpG X (compareOp op) g) (ho' : OpG X (compareOp op') g') (ha : PD X W a ra) (hb : PD X W b rb) (hc : PD X W c rc) (hm : lastMarks [op, op'] [b, c] = false := by with_unfolding_all rfl) :
    PD X W (.Compare a [op, op'] [b, c] pos) (rChain g g' ra rb rc) ∧ PB X W (.Compare a [op, op'] [b, c] pos) (bVal (rChain g g' ra rb rc)) := by
  obtain ⟨r, h1, h2⟩ := ho.ex
  obtain ⟨r', h1', h2'⟩ := ho'.ex
  obtain ⟨ta, pa, sa⟩ := ha.ex
  obtain ⟨tb, pb, sb⟩ := hb.ex
  obtain ⟨tc, pc, sc⟩ := hc.ex
  suffices q : SndE X.w X.K X.mg W (tChain r r' ta tb tc) (rChain g g' ra rb rc) from ⟨⟨_, pe_chain h1 h1' pa pb pc hm, q⟩, ⟨_, pt_chain h1 h1' pa pb pc hm, q.val⟩⟩
  intro α F σ H δ S Q hr hs h
  refine sa α F σ H δ S _ hr hs (wp.bind h fun d S1 _ x H1 β F1 r1 s1 v1 q1 => ?_)
  refine sb (α ++ β) F1 σ H1 δ S1 _ r1 (hs.mono s1.sub) (wp.bind q1 fun e S2 _ y H2 γ F2 r2 s2 v2 q2 => ?_)
  cases eg : g S2 d e with
  | none => rw [eg] at q2; exact q2.elim
  | some z =>
    rw [eg] at q2
    refine h2 (α ++ β ++ γ) F2 H2 S2 x y d e z _ r2 (v1.mono s2.sub) v2 eg fun v H3 ε F3 r3 s3 v3 => ?_
    have q3 := wp.step s3 q2
    cases z with
    | bl k =>
      cases v3
      refine ⟨k, rfl, ?_⟩
      cases k with
      | false => exact q3.now r3 (.bl false)
      | true =>
        refine sc (α ++ β ++ γ ++ ε) F3 σ H3 δ S2 _ r3 (((hs.mono s1.sub).mono s2.sub).mono s3.sub) (wp.bind q3 fun u S4 _ w H4 ζ F4 r4 s4 v4 q4 => ?_)
        obtain ⟨z', e', q5⟩ := wp.lift q4
        exact h2' _ F4 H4 S4 y w e u z' Q r4 ((v2.mono s3.sub).mono s4.sub) v4 e' fun v H' ε F' r3 s3 v3 => q5 v H' ε F' r3 s3 v3
    | _ => exact q3.elim
/-! ### and, or, not, if as values -/
theorem pd_if (hc : PB X W c ba) (ha : PD X W a ra) (hb : PD X W b rb) : PD X W (.IfExp c a b pos) (rIf ba ra rb) := by
  obtain ⟨tc, pc, sc⟩ := hc.ex
  obtain ⟨ta, pa, sa⟩ := ha.ex
  obtain ⟨tb, pb, sb⟩ := hb.ex
  refine ⟨_, pe_ifExp pc pa pb, fun α F σ H δ S Q hr hs h => ?_⟩
  refine sc α F σ H δ S _ hr hs (wp.bind h fun d S1 _ x H1 β F1 r1 q1 v1 h1 => ?_)
  have e : x = d := v1
  subst e
  cases x with
  | true => exact sa (α ++ β) F1 σ H1 δ S1 Q r1 (hs.mono q1.sub) h1
  | false => exact sb (α ++ β) F1 σ H1 δ S1 Q r1 (hs.mono q1.sub) h1
theorem pd_one {op : BoolOp} (ha : PD X W a ra) : PD X W (.BoolOp op [a] pos) ra := let ⟨t, h, s⟩ := ha.ex; ⟨t, pe_one h, s⟩
theorem pd_or (ha : PD X W a ra) (hb : PD X W (.BoolOp .Or (b :: rest) pos) rb) : PD X W (.BoolOp .Or (a :: b :: rest) pos) (rOr ra rb) := by
  obtain ⟨ta, pa, sa⟩ := ha.ex
  obtain ⟨tb, pb, sb⟩ := hb.ex
  refine ⟨_, pe_orT pa pb, fun α F σ H δ S Q hr hs h => ?_⟩
  refine sa α F σ H δ S _ hr hs (wp.bind h fun d S1 _ x H1 β F1 r1 q1 v1 h1 => ?_)
  cases e : truth S1 d with
  | none => rw [e] at h1; exact h1.elim
  | some k =>
    rw [e] at h1
    refine ⟨k, r1.truV v1 e, ?_⟩
    cases k with
    | true => exact h1.now r1 v1
    | false => exact sb (α ++ β) F1 σ H1 δ S1 Q r1 (hs.mono q1.sub) h1
theorem pd_and (ha : PD X W a ra) (hb : PD X W (.BoolOp .And (b :: rest) pos) rb) : PD X W (.BoolOp .And (a :: b :: rest) pos) (rAnd ra rb) := by
  obtain ⟨ta, pa, sa⟩ := ha.ex
  obtain ⟨tb, pb, sb⟩ := hb.ex
  refine ⟨_, pe_andT pa pb, fun α F σ H δ S Q hr hs h => ?_⟩
  refine sa α F σ H δ S _ hr hs (wp.bind h fun d S1 _ x H1 β F1 r1 q1 v1 h1 => ?_)
  cases e : truth S1 d with
  | none => rw [e] at h1; exact h1.elim
  | some k =>
    rw [e] at h1
    refine ⟨k, r1.truV v1 e, ?_⟩
    cases k with
    | false => exact h1.now r1 v1
    | true => exact sb (α ++ β) F1 σ H1 δ S1 Q r1 (hs.mono q1.sub) h1
theorem pd_not (ha : PD X W a ra) : PD X W (.UnaryOp .Not a pos) (rNot ra) := by
  obtain ⟨ta, pa, sa⟩ := ha.ex
  refine ⟨_, pe_notT pa, fun α F σ H δ S Q hr hs h => ?_⟩
  refine sa α F σ H δ S _ hr hs (wp.bind h fun d S1 _ x H1 β F1 r1 q1 v1 h1 => ?_)
  cases e : truth S1 d with
  | none => rw [e] at h1; exact h1.elim
  | some k =>
    rw [e] at h1
    exact ⟨k, r1.truV v1 e, h1.now r1 (.bl _)⟩
end
end DL
set_option Elab.async false
set_option linter.all false
set_option maxRecDepth 100000
set_option maxHeartbeats 4000000
set_option autoImplicit false
/-! Data layer, fifth part: targets, statements, loops, comprehensions, defs. -/
namespace DL
open PySem PySem.Spec PyProof.Rows L2
def relS (wd : World) (K : Fg) (mg : Str → Option Value) : RelT L2.St Sl := fun F α σ δ => Slots wd K mg F α σ δ
def SndG (wd : World) (K : Fg) (mg : Str → Option Value) (W : WX) (t : TG) (g : RG) : Prop := ∀ α F σ H δ S v d (Q : L2.St → Hp → Prop), Rel wd K mg α F H S → Slots wd K mg F α σ δ → DV wd K mg F α v d → wp wd K mg α F H (relS wd K mg) (g d δ S) Q (fun c d H' => W c d σ H') → t v σ H Q
def SndGs (wd : World) (K : Fg) (mg : Str → Option Value) (W : WX) (t : TGs) (g : List D → Sl → Sto → Res Sl) : Prop := ∀ α F σ H δ S v d (Q : L2.St → Hp → Prop), Rel wd K mg α F H S → Slots wd K mg F α σ δ → DVs wd K mg F α v d → wp wd K mg α F H (relS wd K mg) (g d δ S) Q (fun c d H' => W c d σ H') → t v σ H Q
structure PGd (X : Cx) (W : WX) (tg : Expr) (g : RG) : Prop where
  ex : ∃ t, PG X tg t ∧ SndG X.w X.K X.mg W t g
/-- .. that raises nothing -/
structure PGn (X : Cx) (W : WX) (tg : Expr) (g : RG) : Prop where
  pg : PGd X W tg g
  ne : ∀ d δ S c fs S', g d δ S ≠ .err c fs S'
structure PGds (X : Cx) (W : WX) (tg : List Expr) (g : List D → Sl → Sto → Res Sl) : Prop where
  ex : ∃ t, PGs X tg t ∧ SndGs X.w X.K X.mg W t g
  ne : ∀ d δ S c fs S', g d δ S ≠ .err c fs S'
  len : ∀ ds δ S δ' S', g ds δ S = .ok δ' S' → ds.length = tg.length
def wpS (wd : World) (K : Fg) (mg : Str → Option Value) (α : List Addr) (F H : Hp) (o : Out) (E : Ends) (W : WX) : Prop := match o with
  | .nx δ S => ∀ σ' H' β F', Rel wd K mg (α ++ β) F' H' S → Stp α F H β F' H' → Slots wd K mg F' (α ++ β) σ' δ → E.nx σ' H'
  | .rt d S => ∀ v H' β F', Rel wd K mg (α ++ β) F' H' S → Stp α F H β F' H' → DV wd K mg F' (α ++ β) v d → E.rt v H'
  | .bk δ S => ∀ σ' H' β F', Rel wd K mg (α ++ β) F' H' S → Stp α F H β F' H' → Slots wd K mg F' (α ++ β) σ' δ → E.bk σ' H'
  | .ct δ S => ∀ σ' H' β F', Rel wd K mg (α ++ β) F' H' S → Stp α F H β F' H' → Slots wd K mg F' (α ++ β) σ' δ → E.ct σ' H'
  | .err c fs δ S => ∀ cls dd σ' H' β F', Rel wd K mg (α ++ β) F' H' S → Stp α F H β F' H' → Slots wd K mg F' (α ++ β) σ' δ → ErrAt wd K mg F' (α ++ β) c fs cls dd H' → W cls dd σ' H'
  | .stuck => False
def SndS (wd : World) (K : Fg) (mg : Str → Option Value) (W : WX) (t : TS) (r : RS) : Prop := ∀ α F σ H δ S (E : Ends), Rel wd K mg α F H S → Slots wd K mg F α σ δ → wpS wd K mg α F H (r δ S) E W → t E σ H
structure PSd (X : Cx) (W : WX) (st : Stmt) (r : RS) : Prop where
  ex : ∃ t, PS X st t ∧ SndS X.w X.K X.mg W t r
structure PSds (X : Cx) (W : WX) (st : List Stmt) (r : RS) : Prop where
  ex : ∃ t, PSs X st t ∧ SndS X.w X.K X.mg W t r
section
variable {X : Cx} {W : WX} {a b c e : Expr} {es rest : List Expr} {ra rb rc : RE} {ba bb : RB} {rs : RA} {pos p : Pos} {wd : World} {K : Fg} {mg : Str → Option Value} {α β : List Addr} {F F1 H H1 : Hp} {S : Sto}
theorem wpS.step {o : Out} {E : Ends} (st : Stp α F H β F1 H1) (h : wpS wd K mg α F H o E W) : wpS wd K mg (α ++ β) F1 H1 o E W := by
  cases o with
  | nx δ S => intro σ' H' γ F' hr hs hv; rw [List.append_assoc] at hr hv; exact h σ' H' (β ++ γ) F' hr (st.trans hs) hv
  | rt d S => intro σ' H' γ F' hr hs hv; rw [List.append_assoc] at hr hv; exact h σ' H' (β ++ γ) F' hr (st.trans hs) hv
  | bk δ S => intro σ' H' γ F' hr hs hv; rw [List.append_assoc] at hr hv; exact h σ' H' (β ++ γ) F' hr (st.trans hs) hv
  | ct δ S => intro σ' H' γ F' hr hs hv; rw [List.append_assoc] at hr hv; exact h σ' H' (β ++ γ) F' hr (st.trans hs) hv
  | err c fs δ S => intro cls dd σ' H' γ F' hr hs hv q; rw [List.append_assoc] at hr hv q; exact h cls dd σ' H' (β ++ γ) F' hr (st.trans hs) hv q
  | stuck => exact h
theorem wpS.out {A B : Type} {rel : RelT B A} {r : Res A} {δ : Sl} {f : A → Sto → Out} {E : Ends} {Q : B → Hp → Prop} {σ : L2.St} (h : wpS wd K mg α F H (r.out δ f) E W) (hs : Slots wd K mg F α σ δ)
    (k : ∀ a S1, r = .ok a S1 → ∀ x H1 β F1, Rel wd K mg (α ++ β) F1 H1 S1 → Stp α F H β F1 H1 → rel F1 (α ++ β) x a → wpS wd K mg (α ++ β) F1 H1 (f a S1) E W → Q x H1) : wp wd K mg α F H rel r Q (fun c d H' => W c d σ H') := by
  cases r with
  | ok a S' => exact fun b H' β F' hr st hv => k a S' rfl b H' β F' hr st hv (wpS.step st h)
  | err c fs S' => exact fun cls dd H' β F' hr st q => h cls dd σ H' β F' hr st (hs.mono st.sub) q
  | stuck => exact h
theorem wpS.nx {δ : Sl} {E : Ends} {σ : L2.St} (h : wpS wd K mg α F H (.nx δ S) E W) (hr : Rel wd K mg α F H S) (hs : Slots wd K mg F α σ δ) : E.nx σ H := by
  have e : α ++ [] = α := List.append_nil α
  exact h σ H [] F (by rw [e]; exact hr) Stp.refl (by rw [e]; exact hs)
theorem wpS.rt {d : D} {E : Ends} {v : V} (h : wpS wd K mg α F H (.rt d S) E W) (hr : Rel wd K mg α F H S) (hv : DV wd K mg F α v d) : E.rt v H := by
  have e : α ++ [] = α := List.append_nil α
  exact h v H [] F (by rw [e]; exact hr) Stp.refl (by rw [e]; exact hv)
theorem wpS.bk {δ : Sl} {E : Ends} {σ : L2.St} (h : wpS wd K mg α F H (.bk δ S) E W) (hr : Rel wd K mg α F H S) (hs : Slots wd K mg F α σ δ) : E.bk σ H := by
  have e : α ++ [] = α := List.append_nil α
  exact h σ H [] F (by rw [e]; exact hr) Stp.refl (by rw [e]; exact hs)
theorem wpS.ct {δ : Sl} {E : Ends} {σ : L2.St} (h : wpS wd K mg α F H (.ct δ S) E W) (hr : Rel wd K mg α F H S) (hs : Slots wd K mg F α σ δ) : E.ct σ H := by
  have e : α ++ [] = α := List.append_nil α
  exact h σ H [] F (by rw [e]; exact hr) Stp.refl (by rw [e]; exact hs)
/-! ### targets -/
theorem pgd_name (i : Nat) {x : Str} (hN : X.N.Nodup) (hi : X.N[i]? = some x := by rfl) (hx : Loc X.env.scope x := by first | exact Or.inl rfl | exact Or.inr rfl) (hf : X.fn x = true ∨ X.env.scope.names.lookup x = some .local := by first | exact .inl rfl | exact .inr rfl | assumption) : PGn X W (.Name x pos) (gName i) := by
  refine ⟨⟨_, pg_name hN hi hx hf, fun α F σ H δ S v d Q hr hs hv h => ?_⟩, fun d δ S c fs S' h => by unfold gName at h; split at h <;> cases h⟩
  unfold gName at h
  split at h
  · exact h.now hr (hs.set hv)
  · exact h.elim
theorem pgds_nil : PGds X W [] gNil := by
  refine ⟨⟨_, pgs_nil, fun α F σ H δ S v d Q hr hs hv h => ?_⟩, fun d δ S c fs S' h => ?_, fun ds δ S δ' S' h => ?_⟩
  · cases hv with
    | nil => exact ⟨rfl, h.now hr hs⟩
    | cons _ _ => exact h.elim
  · cases d <;> cases h
  · cases ds with
    | nil => rfl
    | cons _ _ => cases h
theorem pgds_cons {g : RG} {u : List D → Sl → Sto → Res Sl} (h1 : PGn X W e g) (h2 : PGds X W es u) (hsy : (assignEach (e :: es) X.env).map (·.2) = assign e X.env :: (assignEach es X.env).map (·.2) := by rfl) : PGds X W (e :: es) (gCons g u) := by
  obtain ⟨t, p1, s1⟩ := h1.pg.ex
  obtain ⟨t', p2, s2⟩ := h2.ex
  refine ⟨⟨_, pgs_cons p1 p2 hsy, fun α F σ H δ S v d Q hr hs hv h => ?_⟩, fun d δ S c fs S' h => ?_, fun ds δ S δ' S' h => ?_⟩
  · cases hv with
    | nil => exact h.elim
    | cons hv ht =>
      rename_i v d vs ds
      refine ⟨v, vs, rfl, s1 α F σ H δ S v d _ hr hs hv (wp.bind h fun δ1 S1 _ σ1 H1 β F1 r1 q1 hs1 h1 => ?_)⟩
      refine s2 (α ++ β) F1 σ1 H1 δ1 S1 vs ds Q r1 hs1 (ht.mono q1.sub) ?_
      cases q : u ds δ1 S1 with
      | ok a S' => rw [q] at h1; exact h1
      | err c fs S' => exact absurd q (h2.ne _ _ _ _ _ _)
      | stuck => rw [q] at h1; exact h1
  · cases d with
    | nil => cases h
    | cons d r =>
      have h' : (g d δ S).bind (fun δ1 S1 => u r δ1 S1) = .err c fs S' := h
      cases q : g d δ S with
      | ok a S1 => rw [q] at h'; exact h2.ne _ _ _ _ _ _ h'
      | err c fs S1 => exact h1.ne _ _ _ _ _ _ q
      | stuck => rw [q] at h'; cases h'
  · cases ds with
    | nil => cases h
    | cons d r =>
      have h' : (g d δ S).bind (fun δ1 S1 => u r δ1 S1) = .ok δ' S' := h
      cases q : g d δ S with
      | ok a S1 => rw [q] at h'; rw [List.length_cons, List.length_cons, h2.len _ _ _ _ _ h']
      | err c fs S1 => rw [q] at h'; cases h'
      | stuck => rw [q] at h'; cases h'
theorem pgn_tup {k : Nat} {u : List D → Sl → Sto → Res Sl} (hc : X.calm = true) (h : PGds X W es u) (hn : (assignEach es X.env).length = es.length := by rfl) (hst : (assignEach es X.env).findIdx? (·.1) = none := by rfl) : PGn X W (.Tuple es k pos) (gTup u) := by
  obtain ⟨t, p1, s1⟩ := h.ex
  refine ⟨⟨_, pg_tup hc p1 hn hst, fun α F σ H δ S v d Q hr hs hv h0 => ?_⟩, fun d δ S c fs S' h0 => ?_⟩
  · unfold gTup at h0
    cases q : deref S d with
    | tup ds =>
      rw [q] at h0
      dsimp only at h0
      obtain ⟨a, xs, e1, e2, e3⟩ := hr.viewT hv q
      have len : ds.length = es.length := by
        cases q2 : u ds δ S with
        | ok δ' S' => exact h.len _ _ _ _ _ q2
        | err c fs S' => exact absurd q2 (h.ne _ _ _ _ _ _)
        | stuck => rw [q2] at h0; exact h0.elim
      exact ⟨a, xs, e1, e2, by rw [e3.length]; exact len, s1 α F σ H δ S xs ds Q hr hs e3 h0⟩
    | tux ds =>
      rw [q] at h0
      dsimp only at h0
      obtain ⟨a, xs, e1, e2, e3⟩ := hr.viewX hv q
      have len : ds.length = es.length := by
        cases q2 : u ds δ S with
        | ok δ' S' => exact h.len _ _ _ _ _ q2
        | err c fs S' => exact absurd q2 (h.ne _ _ _ _ _ _)
        | stuck => rw [q2] at h0; exact h0.elim
      exact ⟨a, xs, e1, e2, by rw [e3.length]; exact len, s1 α F σ H δ S xs ds Q hr hs e3 h0⟩
    | _ => rw [q] at h0; exact h0.elim
  · unfold gTup at h0
    cases q : deref S d with
    | tup ds => rw [q] at h0; exact h.ne _ _ _ _ _ _ h0
    | tux ds => rw [q] at h0; exact h.ne _ _ _ _ _ _ h0
    | _ => rw [q] at h0; cases h0
/-! ### statements -/
theorem psds_nil : PSds X W [] sNext := ⟨_, pss_nil, fun α F σ H δ S E hr hs h => h.nx hr hs⟩
theorem psds_cons {st : Stmt} {sts : List Stmt} {r u : RS} (h1 : PSd X W st r) (h2 : PSds X W sts u) : PSds X W (st :: sts) (sSeq r u) := by
  obtain ⟨t, p1, s1⟩ := h1.ex
  obtain ⟨t', p2, s2⟩ := h2.ex
  refine ⟨_, pss_cons p1 p2, fun α F σ H δ S E hr hs h => ?_⟩
  refine s1 α F σ H δ S _ hr hs ?_
  unfold sSeq at h
  cases q : r δ S with
  | nx δ1 S1 =>
    rw [q] at h
    exact fun σ' H' β F' r1 q1 hs1 => s2 (α ++ β) F' σ' H' δ1 S1 E r1 hs1 (wpS.step q1 h)
  | rt d S1 => rw [q] at h; exact h
  | bk δ S1 => rw [q] at h; exact h
  | ct δ S1 => rw [q] at h; exact h
  | err c fs δ S1 => rw [q] at h; exact h
  | stuck => rw [q] at h; exact h
theorem psds_one {st : Stmt} {r : RS} (h1 : PSd X W st r) : PSds X W [st] r := let ⟨t, p, s⟩ := h1.ex; ⟨t, pss_one p, s⟩
theorem psd_expr (ha : PD X W e ra) (hsw : swapsWith e none pos.line X.env = pure false := by rfl) : PSd X W (.Expr e pos) (sExpr ra) := by
  obtain ⟨t, p1, s1⟩ := ha.ex
  refine ⟨_, ps_expr p1 hsw, fun α F σ H δ S E hr hs h => ?_⟩
  exact s1 α F σ H δ S _ hr hs (wpS.out h hs fun d S1 _ x H1 β F1 r1 q1 v1 h1 => h1.nx r1 (hs.mono q1.sub))
theorem psd_ret (ha : PD X W e ra) : PSd X W (.Return (some e) pos) (sRet ra) := by
  obtain ⟨t, p1, s1⟩ := ha.ex
  refine ⟨_, ps_ret p1, fun α F σ H δ S E hr hs h => ?_⟩
  exact s1 α F σ H δ S _ hr hs (wpS.out h hs fun d S1 _ x H1 β F1 r1 q1 v1 h1 => h1.rt r1 v1)
theorem psd_if {p q : List Stmt} {t u : RS} (hc : PB X W c ba) (ha : PSds X W p t) (hb : PSds X W q u) : PSd X W (.If c p q pos) (sIf ba t u) := by
  obtain ⟨tc, p0, s0⟩ := hc.ex
  obtain ⟨t', p1, s1⟩ := ha.ex
  obtain ⟨u', p2, s2⟩ := hb.ex
  refine ⟨_, ps_if p0 p1 p2, fun α F σ H δ S E hr hs h => ?_⟩
  refine s0 α F σ H δ S _ hr hs (wpS.out h hs fun d S1 _ x H1 β F1 r1 q1 v1 h1 => ?_)
  have e : x = d := v1
  subst e
  cases x with
  | true => exact s1 (α ++ β) F1 σ H1 δ S1 E r1 (hs.mono q1.sub) h1
  | false => exact s2 (α ++ β) F1 σ H1 δ S1 E r1 (hs.mono q1.sub) h1
theorem psd_asg {tg : Expr} {g : RG} (he : PD X W e ra) (hg : PGd X W tg g) (hsw : swapsWithSole [tg] e pos.line X.env = pure false := by rfl) (hw : swappedStores [tg] e X.env = pure none := by rfl) (h1 : (assignEach [tg] X.env).map (·.2) = [assign tg X.env] := by rfl) : PSd X W (.Assign [tg] e pos) (sAsg ra g) := by
  obtain ⟨t, p1, s1⟩ := he.ex
  obtain ⟨tg', p2, s2⟩ := hg.ex
  refine ⟨_, ps_asg p1 p2 hsw hw h1, fun α F σ H δ S E hr hs h => ?_⟩
  refine s1 α F σ H δ S _ hr hs (wpS.out h hs fun d S1 _ x H1 β F1 r1 q1 v1 h1 => ?_)
  refine s2 (α ++ β) F1 σ H1 δ S1 x d _ r1 (hs.mono q1.sub) v1 (wpS.out h1 (hs.mono q1.sub) fun δ1 S2 _ σ1 H2 γ F2 r2 q2 v2 h2 => ?_)
  exact h2.nx r2 v2
/-! ### loops -/
/-- J walks ds, whatever else is laid -/
structure ItOk (wd : World) (K : Fg) (mg : Str → Option Value) (F : Hp) (α : List Addr) (J : It) (ds : List D) : Prop where
  go : ∀ (F' H' : Hp) (i : Nat), Sub F F' → Sub F' H' → i < ds.length → J.go i H'
  stop : ∀ (F' H' : Hp), Sub F F' → Sub F' H' → J.stop ds.length H'
  yld : ∀ (F' H' H2 : Hp) (i : Nat) (x : V) (d : D), Sub F F' → Sub F' H' → ds[i]? = some d → J.yld i H' x H2 → (H2 = H' ∧ DV wd K mg F' α x d) ∨ ∃ T o, H' T = none ∧ H2 = upd H' T o ∧ DV wd K mg (upd F' T o) α x d
theorem ItOk.mono {J : It} {ds : List D} (h : ItOk wd K mg F α J ds) (s : Sub F F1) : ItOk wd K mg F1 (α ++ β) J ds where
  go := fun F' H' i a b => h.go F' H' i (s.trans a) b
  stop := fun F' H' a b => h.stop F' H' (s.trans a) b
  yld := fun F' H' H2 i x d a b c q => (h.yld F' H' H2 i x d (s.trans a) b c q).imp (fun ⟨z, y⟩ => ⟨z, y.mono (Sub.refl _)⟩) fun ⟨T, o, z1, z2, y⟩ => ⟨T, o, z1, z2, y.mono (Sub.refl _)⟩
def relI (wd : World) (K : Fg) (mg : Str → Option Value) : RelT It (List D) := fun F α J ds => ItOk wd K mg F α J ds
def SndI (wd : World) (K : Fg) (mg : Str → Option Value) (W : WX) (t : TI) (r : RA) : Prop := ∀ α F σ H δ S (Q : It → Hp → Prop), Rel wd K mg α F H S → Slots wd K mg F α σ δ → wp wd K mg α F H (relI wd K mg) (r δ S) Q (fun c d H' => W c d σ H') → t σ H Q
structure PId (X : Cx) (W : WX) (tg iter : Expr) (r : RA) : Prop where
  ex : ∃ t, PI X tg iter t ∧ SndI X.w X.K X.mg W t r
/-- the item that came -/
theorem ItOk.came {J : It} {ds : List D} {H2 : Hp} {i : Nat} {x : V} {d : D} (h : ItOk wd K mg F α J ds) (hr : Rel wd K mg α F H S) (hd : ds[i]? = some d) (q : J.yld i H x H2) :
    ∃ F2, Rel wd K mg (α ++ []) F2 H2 S ∧ Stp α F H [] F2 H2 ∧ DV wd K mg F2 (α ++ []) x d := by
  rcases h.yld F H H2 i x d (Sub.refl F) hr.sub hd q with ⟨e, v⟩ | ⟨T, o, e1, e2, v⟩
  · subst e
    refine ⟨F, ?_, Stp.refl, v.mono (Sub.refl F)⟩
    rw [List.append_nil]; exact hr
  · subst e2
    obtain ⟨a1, a2⟩ := hr.newF (o := o) e1
    exact ⟨_, a1, a2, v.mono (Sub.refl _)⟩
theorem drop_cons {A : Type} {l : List A} {i : Nat} {d : A} (h : l[i]? = some d) : l.drop i = d :: l.drop (i + 1) := by
  obtain ⟨hi, e⟩ := List.getElem?_eq_some_iff.mp h
  rw [List.drop_eq_getElem_cons hi, e]
theorem psd_for {tg iter : Expr} {body : List Stmt} {ri : RA} {g : RG} {r : RS} (hp : PassesOwn (model X.prog X.w) X.A X.env X.xe) (hc : X.calm = true) (hi : PId X W tg iter ri) (hg : PGd X W tg g) (hb : PSds X W body r) (hsx : ∀ x, foldedSetIterable iter X.env x = pure x := by intro _; rfl) : PSd X W (.For tg iter body [] pos) (sFor ri g r) := by
  obtain ⟨ti, p1, s1⟩ := hi.ex
  obtain ⟨tg', p2, s2⟩ := hg.ex
  obtain ⟨tb, p3, s3⟩ := hb.ex
  refine ⟨_, ps_for hp hc p1 p2 p3 hsx, fun α F σ H δ S E hr hs h => ?_⟩
  refine s1 α F σ H δ S _ hr hs (wpS.out h hs fun ds S1 _ J H1 β F1 r1 q1 v1 h1 => ?_)
  have v1 : ItOk X.w X.K X.mg F1 (α ++ β) J ds := v1
  refine ⟨fun i m σ' H' => i + m = ds.length ∧ ∃ γ F' δ' S', Rel X.w X.K X.mg (α ++ β ++ γ) F' H' S' ∧ Sub F1 F' ∧ Slots X.w X.K X.mg F' (α ++ β ++ γ) σ' δ' ∧ wpS X.w X.K X.mg (α ++ β ++ γ) F' H' (forL g r (ds.drop i) δ' S') E W, ⟨ds.length, by omega, [], F1, δ, S1, ?_⟩, fun i m σ' H' ⟨hm, γ, F', δ', S', r2, sb, hs2, h2⟩ => ?_⟩
  · rw [List.append_nil]
    exact ⟨r1, Sub.refl _, hs.mono q1.sub, h1⟩
  · have v2 : ItOk X.w X.K X.mg F' (α ++ β ++ γ) J ds := v1.mono sb
    by_cases hlt : i < ds.length
    · obtain ⟨d, hd⟩ : ∃ d, ds[i]? = some d := ⟨_, List.getElem?_eq_getElem hlt⟩
      refine .inr ⟨v2.go F' H' i (Sub.refl _) r2.sub hlt, fun σ2 H2 => ∃ γ F' δ' S', Rel X.w X.K X.mg (α ++ β ++ γ) F' H2 S' ∧ Sub F1 F' ∧ Slots X.w X.K X.mg F' (α ++ β ++ γ) σ2 δ' ∧ wpS X.w X.K X.mg (α ++ β ++ γ) F' H2 (forL g r (ds.drop (i + 1)) δ' S') E W, fun σ2 H2 z => ⟨m - 1, by omega, by omega, z⟩, fun x H2 hy => ?_⟩
      obtain ⟨F2, r3, q3, v3⟩ := v2.came r2 hd hy
      rw [drop_cons hd] at h2
      have h3 := wpS.step q3 h2
      refine s2 (α ++ β ++ γ ++ []) F2 σ' H2 δ' S' x d _ r3 (hs2.mono q3.sub) v3 (wpS.out h3 (hs2.mono q3.sub) fun δ1 S2 _ σ1 H3 ε F3 r4 q4 v4 h4 => ?_)
      refine s3 (α ++ β ++ γ ++ [] ++ ε) F3 σ1 H3 δ1 S2 _ r4 v4 ?_
      have sb3 : Sub F1 F3 := (sb.trans q3.sub).trans q4.sub
      have ass : ∀ ζ : List Addr, α ++ β ++ γ ++ [] ++ ε ++ ζ = α ++ β ++ (γ ++ ε ++ ζ) := fun ζ => by simp [List.append_assoc]
      cases q : r δ1 S2 with
      | nx δ2 S3 =>
        rw [q] at h4
        intro σ4 H4 ζ F4 r5 q5 v5
        have h5 := wpS.step q5 h4
        rw [ass] at r5 v5 h5
        exact ⟨_, F4, δ2, S3, r5, sb3.trans q5.sub, v5, h5⟩
      | ct δ2 S3 =>
        rw [q] at h4
        intro σ4 H4 ζ F4 r5 q5 v5
        have h5 := wpS.step q5 h4
        rw [ass] at r5 v5 h5
        exact ⟨_, F4, δ2, S3, r5, sb3.trans q5.sub, v5, h5⟩
      | bk δ2 S3 => rw [q] at h4; exact h4
      | rt d S3 => rw [q] at h4; exact h4
      | err c fs δ2 S3 => rw [q] at h4; exact h4
      | stuck => rw [q] at h4; exact h4
    · have e : i = ds.length := by omega
      subst e
      refine .inl ⟨v2.stop F' H' (Sub.refl _) r2.sub, ?_⟩
      rw [List.drop_length] at h2
      exact wpS.nx h2 r2 hs2
theorem psd_while {c : Expr} {body : List Stmt} {r : RS} (fuel : Sl → Sto → Nat) (hp : PassesOwn (model X.prog X.w) X.A X.env X.xe) (hcd : PB X W c ba) (hb : PSds X W body r) : PSd X W (.While c body [] pos) (sWhile fuel ba r) := by
  obtain ⟨tc, p1, s1⟩ := hcd.ex
  obtain ⟨tb, p3, s3⟩ := hb.ex
  refine ⟨_, ps_while hp p1 p3, fun α F σ H δ S E hr hs h => ?_⟩
  refine ⟨fun m σ' H' => ∃ γ F' δ' S', Rel X.w X.K X.mg (α ++ γ) F' H' S' ∧ Slots X.w X.K X.mg F' (α ++ γ) σ' δ' ∧ wpS X.w X.K X.mg (α ++ γ) F' H' (whileL ba r m δ' S') E W, ⟨fuel δ S, [], F, δ, S, ?_⟩, fun m σ' H' ⟨γ, F', δ', S', r2, hs2, h2⟩ => ?_⟩
  · rw [List.append_nil]
    exact ⟨hr, hs, h⟩
  · cases m with
    | zero => exact h2.elim
    | succ m =>
      refine s1 (α ++ γ) F' σ' H' δ' S' _ r2 hs2 (wpS.out h2 hs2 fun k S2 _ x H3 ε F3 r4 q4 v4 h4 => ?_)
      have e : x = k := v4
      subst e
      cases x with
      | false => exact wpS.nx h4 r4 (hs2.mono q4.sub)
      | true =>
        refine ⟨fun σ2 H2 => ∃ γ F' δ' S', Rel X.w X.K X.mg (α ++ γ) F' H2 S' ∧ Slots X.w X.K X.mg F' (α ++ γ) σ2 δ' ∧ wpS X.w X.K X.mg (α ++ γ) F' H2 (whileL ba r m δ' S') E W, fun σ2 H2 z => ⟨m, Nat.lt_succ_self m, z⟩, ?_⟩
        refine s3 (α ++ γ ++ ε) F3 σ' H3 δ' S2 _ r4 (hs2.mono q4.sub) ?_
        have ass : ∀ ζ : List Addr, α ++ γ ++ ε ++ ζ = α ++ (γ ++ ε ++ ζ) := fun ζ => by simp [List.append_assoc]
        rw [if_pos rfl] at h4
        cases q : r δ' S2 with
        | nx δ2 S3 =>
          rw [q] at h4
          intro σ4 H4 ζ F4 r5 q5 v5
          have h5 := wpS.step q5 h4
          rw [ass] at r5 v5 h5
          exact ⟨_, F4, δ2, S3, r5, v5, h5⟩
        | ct δ2 S3 =>
          rw [q] at h4
          intro σ4 H4 ζ F4 r5 q5 v5
          have h5 := wpS.step q5 h4
          rw [ass] at r5 v5 h5
          exact ⟨_, F4, δ2, S3, r5, v5, h5⟩
        | bk δ2 S3 => rw [q] at h4; exact h4
        | rt d S3 => rw [q] at h4; exact h4
        | err c fs δ2 S3 => rw [q] at h4; exact h4
        | stuck => rw [q] at h4; exact h4
end
end DL
set_option Elab.async false
set_option linter.all false
set_option maxRecDepth 100000
set_option maxHeartbeats 4000000
set_option autoImplicit false
/-! Data layer, sixth part: list comprehensions, defs. -/
namespace DL
open PySem PySem.Spec PyProof.Rows L2
abbrev W0 : WX := fun _ _ _ _ => False
section
variable {X : Cx} {W : WX} {a b c e : Expr} {es rest : List Expr} {ra rb rc : RE} {ba bb : RB} {rs : RA} {pos p : Pos} {wd : World} {K : Fg} {mg : Str → Option Value} {α β : List Addr} {F F1 H H1 : Hp} {S : Sto}
/-- an expression's reading by its mirror alone -/
def tCanE (wd : World) (K : Fg) (mg : Str → Option Value) (W : WX) (r : RE) : TE := fun σ H Q => ∃ α F δ S, Rel wd K mg α F H S ∧ Slots wd K mg F α σ δ ∧ wp wd K mg α F H (relD wd K mg) (r δ S) Q (fun c d H' => W c d σ H')
def tCanB (wd : World) (K : Fg) (mg : Str → Option Value) (W : WX) (r : RB) : TT := fun σ H Q => ∃ α F δ S, Rel wd K mg α F H S ∧ Slots wd K mg F α σ δ ∧ wp wd K mg α F H relB (r δ S) Q (fun c d H' => W c d σ H')
theorem PD.can (h : PD X W a ra) : PE X a (tCanE X.w X.K X.mg W ra) := by
  obtain ⟨t, p, s⟩ := h.ex
  exact ⟨fun pins sh σ H Q I ⟨α, F, δ, S, h1, h2, h3⟩ => p.run pins sh σ H Q I (s α F σ H δ S Q h1 h2 h3)⟩
theorem PB.can (h : PB X W a ba) : PT X a (tCanB X.w X.K X.mg W ba) := by
  obtain ⟨t, p, s⟩ := h.ex
  exact ⟨fun pins sh σ H Q I ⟨α, F, δ, S, h1, h2, h3⟩ => p.run pins sh σ H Q I (s α F σ H δ S Q h1 h2 h3)⟩
/-! ### a comprehension's own targets -/
theorem wipe_set {σ : L2.St} {i : Nat} {x : Option V} : ∀ {vs : List Nat}, wipe (σ.set i x) vs = if i ∈ vs then wipe σ vs else (wipe σ vs).set i x
  | [] => rfl
  | v :: vs => by
    unfold wipe
    rw [wipe_set]
    by_cases h : i ∈ vs
    · rw [if_pos h, if_pos (List.mem_cons_of_mem _ h)]
    · rw [if_neg h]
      by_cases z : i = v
      · subst z
        rw [if_pos List.mem_cons_self, List.set_set]
      · rw [if_neg (by intro q; rcases List.mem_cons.mp q with q | q; exact z q; exact h q)]
        exact List.set_comm _ _ z
structure PGx (X : Cx) (vs : List Nat) (tg : Expr) (t : TG) (g : RG) : Prop where
  pg : PG X tg t
  snd : ∀ α F σ H δ S v d (Q : L2.St → Hp → Prop), Rel X.w X.K X.mg α F H S → Slots X.w X.K X.mg F α σ δ → DV X.w X.K X.mg F α v d → wp X.w X.K X.mg α F H (fun F α σ' δ' => Slots X.w X.K X.mg F α σ' δ' ∧ wipe σ' vs = wipe σ vs) (g d δ S) Q (fun _ _ _ => False) → t v σ H Q
  ne : ∀ d δ S c fs S', g d δ S ≠ .err c fs S'
structure PGxs (X : Cx) (vs : List Nat) (tg : List Expr) (t : TGs) (g : List D → Sl → Sto → Res Sl) : Prop where
  pg : PGs X tg t
  snd : ∀ α F σ H δ S v d (Q : L2.St → Hp → Prop), Rel X.w X.K X.mg α F H S → Slots X.w X.K X.mg F α σ δ → DVs X.w X.K X.mg F α v d → wp X.w X.K X.mg α F H (fun F α σ' δ' => Slots X.w X.K X.mg F α σ' δ' ∧ wipe σ' vs = wipe σ vs) (g d δ S) Q (fun _ _ _ => False) → t v σ H Q
  ne : ∀ d δ S c fs S', g d δ S ≠ .err c fs S'
  len : ∀ ds δ S δ' S', g ds δ S = .ok δ' S' → ds.length = tg.length
theorem pgx_name {vs : List Nat} (i : Nat) {x : Str} (hN : X.N.Nodup) (hv : i ∈ vs := by decide) (hi : X.N[i]? = some x := by rfl) (hx : Loc X.env.scope x := by first | exact Or.inl rfl | exact Or.inr rfl) (hf : X.fn x = true ∨ X.env.scope.names.lookup x = some .local := by first | exact .inl rfl | exact .inr rfl | assumption) : PGx X vs (.Name x pos) (L2.gName i) (gName i) := by
  refine ⟨pg_name hN hi hx hf, fun α F σ H δ S v d Q hr hs hd h => ?_, fun d δ S c fs S' h => by unfold gName at h; split at h <;> cases h⟩
  unfold gName at h
  split at h
  · exact h.now hr ⟨hs.set hd, by rw [wipe_set, if_pos hv]⟩
  · exact h.elim
theorem pgxs_nil {vs : List Nat} : PGxs X vs [] L2.gNil gNil := by
  refine ⟨pgs_nil, fun α F σ H δ S v d Q hr hs hv h => ?_, fun d δ S c fs S' h => ?_, fun ds δ S δ' S' h => ?_⟩
  · cases hv with
    | nil => exact ⟨rfl, h.now hr ⟨hs, rfl⟩⟩
    | cons _ _ => exact h.elim
  · cases d <;> cases h
  · cases ds with
    | nil => rfl
    | cons _ _ => cases h
theorem pgxs_cons {vs : List Nat} {t : TG} {t' : TGs} {g : RG} {u : List D → Sl → Sto → Res Sl} (h1 : PGx X vs e t g) (h2 : PGxs X vs es t' u) (hsy : (assignEach (e :: es) X.env).map (·.2) = assign e X.env :: (assignEach es X.env).map (·.2) := by rfl) : PGxs X vs (e :: es) (L2.gCons t t') (gCons g u) := by
  refine ⟨pgs_cons h1.pg h2.pg hsy, fun α F σ H δ S v d Q hr hs hv h => ?_, fun d δ S c fs S' h => ?_, fun ds δ S δ' S' h => ?_⟩
  · cases hv with
    | nil => exact h.elim
    | cons hv ht =>
      rename_i v d vs' ds
      refine ⟨v, vs', rfl, h1.snd α F σ H δ S v d _ hr hs hv (wp.bind h fun δ1 S1 _ σ1 H1 β F1 r1 q1 hs1 q => ?_)⟩
      refine h2.snd (α ++ β) F1 σ1 H1 δ1 S1 vs' ds Q r1 hs1.1 (ht.mono q1.sub) ?_
      rw [hs1.2]
      exact q
  · cases d with
    | nil => cases h
    | cons d r =>
      have h' : (g d δ S).bind (fun δ1 S1 => u r δ1 S1) = .err c fs S' := h
      cases q : g d δ S with
      | ok a S1 => rw [q] at h'; exact h2.ne _ _ _ _ _ _ h'
      | err c fs S1 => exact h1.ne _ _ _ _ _ _ q
      | stuck => rw [q] at h'; cases h'
  · cases ds with
    | nil => cases h
    | cons d r =>
      have h' : (g d δ S).bind (fun δ1 S1 => u r δ1 S1) = .ok δ' S' := h
      cases q : g d δ S with
      | ok a S1 => rw [q] at h'; rw [List.length_cons, List.length_cons, h2.len _ _ _ _ _ h']
      | err c fs S1 => rw [q] at h'; cases h'
      | stuck => rw [q] at h'; cases h'
theorem pgx_tup {vs : List Nat} {k : Nat} {t : TGs} {u : List D → Sl → Sto → Res Sl} (hc : X.calm = true) (h : PGxs X vs es t u) (hn : (assignEach es X.env).length = es.length := by rfl) (hst : (assignEach es X.env).findIdx? (·.1) = none := by rfl) : PGx X vs (.Tuple es k pos) (L2.gTup X.K es.length t) (gTup u) := by
  refine ⟨pg_tup hc h.pg hn hst, fun α F σ H δ S v d Q hr hs hv h0 => ?_, fun d δ S c fs S' h0 => ?_⟩
  · unfold gTup at h0
    cases q : deref S d with
    | tup ds =>
      rw [q] at h0
      dsimp only at h0
      obtain ⟨a, xs, e1, e2, e3⟩ := hr.viewT hv q
      have len : ds.length = es.length := by
        cases q2 : u ds δ S with
        | ok δ' S' => exact h.len _ _ _ _ _ q2
        | err c fs S' => exact absurd q2 (h.ne _ _ _ _ _ _)
        | stuck => rw [q2] at h0; exact h0.elim
      exact ⟨a, xs, e1, e2, by rw [e3.length]; exact len, h.snd α F σ H δ S xs ds Q hr hs e3 h0⟩
    | tux ds =>
      rw [q] at h0
      dsimp only at h0
      obtain ⟨a, xs, e1, e2, e3⟩ := hr.viewX hv q
      have len : ds.length = es.length := by
        cases q2 : u ds δ S with
        | ok δ' S' => exact h.len _ _ _ _ _ q2
        | err c fs S' => exact absurd q2 (h.ne _ _ _ _ _ _)
        | stuck => rw [q2] at h0; exact h0.elim
      exact ⟨a, xs, e1, e2, by rw [e3.length]; exact len, h.snd α F σ H δ S xs ds Q hr hs e3 h0⟩
    | _ => rw [q] at h0; exact h0.elim
  · unfold gTup at h0
    cases q : deref S d with
    | tup ds => rw [q] at h0; exact h.ne _ _ _ _ _ _ h0
    | tux ds => rw [q] at h0; exact h.ne _ _ _ _ _ _ h0
    | _ => rw [q] at h0; cases h0
theorem Slots.wipe {σ : L2.St} {δ : Sl} (h : Slots wd K mg F α σ δ) : ∀ vs : List Nat, Slots wd K mg F α (L2.wipe σ vs) (wipeD δ vs)
  | [] => h
  | v :: vs => by
    have ih := Slots.wipe h vs
    refine ⟨by show ((L2.wipe σ vs).set v none).length = ((wipeD δ vs).set v none).length; rw [List.length_set, List.length_set]; exact ih.1, fun j d e => ?_⟩
    have e' : ((wipeD δ vs).set v none)[j]? = some (some d) := e
    show ∃ w, ((L2.wipe σ vs).set v none)[j]? = some (some w) ∧ _
    by_cases z : v = j
    · subst z
      have hl : v < (wipeD δ vs).length := by
        have := (List.getElem?_eq_some_iff.mp e').1
        rw [List.length_set] at this; exact this
      rw [List.getElem?_set_self hl] at e'
      cases e'
    · rw [List.getElem?_set_ne z] at e' ⊢
      exact ih.2 j d e'
/-- what walks a comprehension: read within its block -/
structure PLc (X : Cx) (vs : List Nat) (scope : Scope) (tg elt : Expr) (ifs : List Expr) (t : TG) (tt : TT) (g : RG) (rt : RB) (re : RE) : Prop where
  g : ∀ (s : Shared) (H : Hp) (C : Addr) (cl : List (Str × Addr)) (fp : List Addr), PGx (X.blk s H scope (compEnvC scope cl C X.env) fp) vs tg t g
  t : ∀ (s : Shared) (H : Hp) (C : Addr) (cl : List (Str × Addr)) (fp : List Addr), PTs (X.blk s H scope (compEnvC scope cl C X.env) fp) ifs tt
  ts : ∀ α F σ H δ S (Q : Bool → Hp → Prop), Rel X.w X.K X.mg α F H S → Slots X.w X.K X.mg F α σ δ → wp X.w X.K X.mg α F H relB (rt δ S) Q (fun _ _ _ => False) → tt σ H Q
  e : ∀ (s : Shared) (H : Hp) (C : Addr) (cl : List (Str × Addr)) (fp : List Addr), PD (X.blk s H scope (compEnvC scope cl C X.env) fp) W0 elt re
theorem plc_no {vs : List Nat} {scope : Scope} {tg elt : Expr} {t : TG} {g : RG} {re : RE} (hg : ∀ (s : Shared) (H : Hp) (C : Addr) (cl : List (Str × Addr)) (fp : List Addr), PGx (X.blk s H scope (compEnvC scope cl C X.env) fp) vs tg t g)
    (he : ∀ (s : Shared) (H : Hp) (C : Addr) (cl : List (Str × Addr)) (fp : List Addr), PD (X.blk s H scope (compEnvC scope cl C X.env) fp) W0 elt re) : PLc X vs scope tg elt [] t tYes g bYes re :=
  ⟨hg, fun _ _ _ _ _ => pts_nil, fun α F σ H δ S Q hr _ h => wp.now (b := true) h hr rfl, he⟩
theorem bind_ok {A B : Type} {r : Res A} {f : A → Sto → Res B} {b : B} {S' : Sto} (h : r.bind f = .ok b S') : ∃ a S1, r = .ok a S1 ∧ f a S1 = .ok b S' := by
  cases r with
  | ok a S1 => exact ⟨a, S1, rfl, h⟩
  | err c fs S1 => cases h
  | stuck => cases h
theorem wipe_idem (σ : L2.St) : ∀ vs : List Nat, L2.wipe (L2.wipe σ vs) vs = L2.wipe σ vs
  | [] => rfl
  | v :: vs => by
    show (L2.wipe ((L2.wipe σ vs).set v none) vs).set v none = (L2.wipe σ vs).set v none
    rw [wipe_set, wipe_idem σ vs]
    split
    · rfl
    · rw [List.set_set]
structure Stay (wd : World) (K : Fg) (mg : Str → Option Value) (α : List Addr) (F H : Hp) (ad : Addr) (acc : List V) (accD : List D) (γ : List Addr) (F' H' : Hp) (S' : Sto) : Prop where
  rel : Rel wd K mg (α ++ γ) F' H' S'
  stp : Stp α F H γ F' H'
  nin : ad ∉ α ++ γ
  nF : F' ad = none
  at' : H' ad = some (.lst acc)
  dvs : DVs wd K mg F' (α ++ γ) acc accD
theorem Stay.step {ad : Addr} {acc : List V} {accD : List D} {γ ε : List Addr} {F' H' F2 H2 : Hp} {S' S2 : Sto} (st : Stay wd K mg α F H ad acc accD γ F' H' S') (r : Rel wd K mg (α ++ γ ++ ε) F2 H2 S2) (q : Stp (α ++ γ) F' H' ε F2 H2) : Stay wd K mg α F H ad acc accD (γ ++ ε) F2 H2 S2 := by
  have hn : H' ad ≠ none := by rw [st.at']; exact fun z => nomatch z
  refine ⟨by rw [← List.append_assoc]; exact r, st.stp.trans q, ?_, q.fnew ad st.nin st.nF hn, q.frame ad _ st.nin st.at', by rw [← List.append_assoc]; exact st.dvs.mono q.sub⟩
  rw [← List.append_assoc]
  intro z
  rcases List.mem_append.mp z with z | z
  · exact st.nin z
  · exact hn (q.new ad z)
/-- the loop of a comprehension -/
theorem lc_all {scope : Scope} {vs : List Nat} {tg elt : Expr} {ifs : List Expr} {t : TG} {tt : TT} {g : RG} {rt : RB} {re : RE} (L : PLc X vs scope tg elt ifs t tt g rt re) {σ : L2.St} {δ : Sl} {S1 S2 : Sto} {ds zs : List D} {J : It} {ad : Addr} {Qd : Hp → Prop}
    (hr : Rel X.w X.K X.mg α F H S1) (hs : Slots X.w X.K X.mg F α σ δ) (hJ : ItOk X.w X.K X.mg F α J ds) (hD : H ad = none) (hz : lcL g rt re ds (wipeD δ vs) S1 = .ok zs S2) (hl : zs.length ≤ sizeLine)
    (hq : ∀ H' β F', Rel X.w X.K X.mg (α ++ β) F' H' S2 → Stp α F H β F' H' → ad ∉ α ++ β → F' ad = none → Own X.w X.K X.mg F' (α ++ β) H' ad (.lst zs) → Qd H') :
    ∃ Wl : Nat → Nat → Hp → Prop, (∃ m, Wl 0 m (upd H ad (.lst []))) ∧ ∀ i m H, Wl i m H → (J.stop i H ∧ Qd H) ∨ (J.go i H ∧ ∃ Nx : Hp → Prop, (∀ H', Nx H' → ∃ m', m' < m ∧ Wl (i + 1) m' H') ∧ ∀ x H', J.yld i H x H' → t x (L2.wipe σ vs) H' fun σ2 H2 => L2.wipe σ2 vs = L2.wipe σ vs ∧ tt σ2 H2 fun b H3 =>
      if b = true then tCanE X.w X.K X.mg W0 re σ2 H3 fun y H4 => ∃ acc, H4 ad = some (.lst acc) ∧ acc.length < sizeLine ∧ Nx (upd H4 ad (.lst (acc ++ [y]))) else Nx H3) := by
  refine ⟨fun i m H' => i + m = ds.length ∧ ∃ γ F' S' acc accD, Stay X.w X.K X.mg α F H ad acc accD γ F' H' S' ∧
    (lcL g rt re (ds.drop i) (wipeD δ vs) S').bind (fun ys S3 => .ok (accD ++ ys) S3) = .ok zs S2, ⟨ds.length, by omega, [], F, S1, [], [], ?_, ?_⟩, fun i m H' ⟨hm, γ, F', S', acc, accD, st, eq⟩ => ?_⟩
  · have n := hr.notin hD
    have f := hr.notF hD
    refine ⟨?_, Stp.refl.other hD, ?_, f, upd_same, .nil⟩
    · rw [List.append_nil]; exact hr.other n f
    · rw [List.append_nil]; exact n
  · rw [List.drop_zero, hz]
    rfl
  · have v2 : ItOk X.w X.K X.mg F' (α ++ γ) J ds := hJ.mono st.stp.sub
    by_cases hlt : i < ds.length
    · obtain ⟨d, hd⟩ : ∃ d, ds[i]? = some d := ⟨_, List.getElem?_eq_getElem hlt⟩
      refine .inr ⟨v2.go F' H' i (Sub.refl _) st.rel.sub hlt, fun H4 => ∃ γ F' S' acc accD, Stay X.w X.K X.mg α F H ad acc accD γ F' H4 S' ∧
        (lcL g rt re (ds.drop (i + 1)) (wipeD δ vs) S').bind (fun ys S3 => .ok (accD ++ ys) S3) = .ok zs S2, fun H4 z => ⟨m - 1, by omega, by omega, z⟩, fun x H2 hy => ?_⟩
      obtain ⟨F2, r3, q3, v3⟩ := v2.came st.rel hd hy
      have st3 := st.step r3 q3
      rw [drop_cons hd] at eq
      obtain ⟨ys, S3, eq1, eq2⟩ := bind_ok eq
      cases eq2
      unfold lcL at eq1
      obtain ⟨δ1, S4, eg, eq1⟩ := bind_ok eq1
      obtain ⟨k, S5, et, eq1⟩ := bind_ok eq1
      have hs3 : Slots X.w X.K X.mg F2 (α ++ γ ++ []) (L2.wipe σ vs) (wipeD δ vs) := (((hs.mono st.stp.sub).mono q3.sub).wipe vs)
      refine (L.g X.s_0 H 0 [] []).snd (α ++ γ ++ []) F2 (L2.wipe σ vs) H2 (wipeD δ vs) S' x d _ r3 hs3 v3 ?_
      rw [eg]
      intro σ1 H5 ε F5 r5 q5 ⟨hs5, hw⟩
      rw [List.append_assoc α γ []] at q5 r5 hs5
      have st5 := st3.step r5 q5
      refine ⟨hw.trans (wipe_idem σ vs), ?_⟩
      refine L.ts _ F5 σ1 H5 δ1 S4 _ r5 hs5 ?_
      rw [et]
      intro b H6 ζ F6 r6 q6 eb
      have eb : b = k := eb
      subst eb
      rw [List.append_assoc α (γ ++ []) ε] at q6 r6
      have st6 := st5.step r6 q6
      cases b with
      | false =>
        rw [if_neg (by decide)]
        rw [if_neg (by decide)] at eq1
        exact ⟨_, F6, S5, acc, accD, st6, by rw [eq1]; rfl⟩
      | true =>
        rw [if_pos rfl]
        rw [if_pos rfl] at eq1
        obtain ⟨y, S6, ey, eq1⟩ := bind_ok eq1
        obtain ⟨ys', S7, er, eq1⟩ := bind_ok eq1
        cases eq1
        have hs6 := hs5.mono (β := ζ) q6.sub
        rw [List.append_assoc α (γ ++ []) ε] at hs6
        refine ⟨_, F6, δ1, S5, r6, hs6, ?_⟩
        rw [ey]
        intro v H7 η F7 r7 q7 v7
        rw [List.append_assoc α (γ ++ [] ++ ε) ζ] at q7 r7 v7
        have st7 := st6.step r7 q7
        have hlen : acc.length < sizeLine := by
          have e1 := st.dvs.length
          rw [List.length_append, List.length_cons] at hl
          omega
        have v7 : DV X.w X.K X.mg F7 _ v y := v7
        refine ⟨acc, st7.at', hlen, _, F7, S6, acc ++ [v], accD ++ [y], ⟨st7.rel.other st7.nin st7.nF, ?_, st7.nin, st7.nF, upd_same, st7.dvs.append (.cons ?_ .nil)⟩, ?_⟩
        · exact st7.stp.other hD
        · simpa only [List.append_assoc] using v7
        · rw [er]
          show Res.ok (accD ++ [y] ++ ys') _ = _
          rw [List.append_assoc] <;> rfl
    · have e : i = ds.length := by omega
      subst e
      rw [List.drop_length] at eq
      have eq' : Res.ok (accD ++ []) S' = Res.ok zs S2 := eq
      rw [List.append_nil] at eq'
      cases eq'
      exact .inl ⟨v2.stop F' H' (Sub.refl _) st.rel.sub, hq H' γ F' st.rel st.stp st.nin st.nF ⟨acc, st.at', st.dvs⟩⟩
/-- a mirror that came to a list that fits -/
theorem lc_fits {g : RG} {rt : RB} {re : RE} {vs : List Nat} {δ : Sl} {S1 : Sto} {ds : List D} {Q : VK} {W : XK} (h : wpF wd K mg α F H ((noErr (lcL g rt re ds (wipeD δ vs) S1)).bind fun ys S2 => if ys.length ≤ sizeLine then .ok (.lst ys) S2 else .stuck) Q W) :
    ∃ zs S2, lcL g rt re ds (wipeD δ vs) S1 = .ok zs S2 ∧ zs.length ≤ sizeLine ∧ wpF wd K mg α F H (.ok (.lst zs) S2) Q W := by
  cases q : lcL g rt re ds (wipeD δ vs) S1 with
  | ok zs S2 =>
    rw [q] at h
    have h' : wpF wd K mg α F H (if zs.length ≤ sizeLine then .ok (.lst zs) S2 else .stuck) Q W := h
    split at h'
    · rename_i hl; exact ⟨zs, S2, rfl, hl, h'⟩
    · exact h'.elim
  | err c fs S2 => rw [q] at h; exact h.elim
  | stuck => rw [q] at h; exact h.elim
theorem lc_snd {ri : RA} {wi : TI} {scope : Scope} {vs : List Nat} {tg elt : Expr} {ifs : List Expr} {t : TG} {tt : TT} {g : RG} {rt : RB} {re : RE} (si : SndI X.w X.K X.mg W wi ri) (L : PLc X vs scope tg elt ifs t tt g rt re) {σ : L2.St} {δ : Sl} {Q : VK}
    (hr : Rel X.w X.K X.mg α F H S) (hs : Slots X.w X.K X.mg F α σ δ) (h : wpF X.w X.K X.mg α F H (rLc ri g vs rt re δ S) Q (fun c d H' => W c d σ H')) : tLc wi t tt (tCanE X.w X.K X.mg W0 re) vs σ H Q := by
  refine si α F σ H δ S _ hr hs (wpF.bind h fun ds S1 _ J H1 β F1 r1 q1 v1 h1 => ?_)
  intro ad hD
  obtain ⟨zs, S2, e1, e2, h2⟩ := lc_fits h1
  refine lc_all (Qd := fun H' => Q (.ref ad) H') L r1 (hs.mono q1.sub) v1 hD e1 e2 fun H' γ F' r2 q2 n f o => ?_
  exact h2 ad H' γ F' r2 q2 hD n f o rfl
theorem pf_lc {tg iter elt : Expr} {ifs : List Expr} {scope : Scope} {own : List (Str × Nat)} {t : TG} {tt : TT} {ri : RA} {g : RG} {rt : RB} {re : RE} (hc : X.calm = true) (hN : X.N.Nodup) (hi : PId X W tg iter ri) (ok : BlkOk X.N X.env.scope scope own) (L : PLc X (own.map (·.2)) scope tg elt ifs t tt g rt re)
    (hsx : ∀ x, foldedSetIterable iter X.env x = pure x := by intro _; rfl) : PF X W (.ListComp elt [⟨tg, iter, ifs, 0⟩] scope pos) (rLc ri g (own.map (·.2)) rt re) := by
  obtain ⟨wi, p1, s1⟩ := hi.ex
  exact ⟨_, pe_lc hc hN p1 ok (fun s H C cl fp => (L.g s H C cl fp).pg) L.t (fun s H C cl fp => (L.e s H C cl fp).can) hsx, fun α F σ H δ S Q hr hs h => lc_snd s1 L hr hs h⟩
/-- what is done with a made list: it is the store's, or stands for good -/
theorem wpF.keep {r : Res D} {σ : L2.St} {Q : VK} (h : wp wd K mg α F H (relD wd K mg) (r.bind fun d S1 => match d with | .lst ds => .ok (.lst ds) S1 | _ => .stuck) Q (fun c d H' => W c d σ H')) : wpF wd K mg α F H r Q (fun c d H' => W c d σ H') := by
  cases r with
  | ok d S' =>
    intro p H' β F' r1 s1 hp ha hf ho hd
    cases d with
    | lst ds =>
      have h2 : wp wd K mg α F H (relD wd K mg) (.ok (.lst ds) S') Q _ := h
      obtain ⟨xs, o1, o2⟩ := ho
      obtain ⟨a1, a2⟩ := r1.freeze (o := .lst xs) ha hf o1
      exact h2 (.ref p) H' β (upd F' p (.lst xs)) a1 ⟨s1.new, s1.sub.trans a2, s1.frame, s1.live, fun a g1 g2 g3 => by
        have z : a ≠ p := fun z => g3 (z ▸ hp)
        rw [upd_ne z]; exact s1.fnew a g1 g2 g3⟩ (.lst (.inl (Rd.of upd_same)) (by have := o2.mono (β := []) a2; rw [List.append_nil] at this; exact this))
    | _ => exact (show False from h).elim
  | err c fs S' => exact h
  | stuck => exact h
theorem wpF.ownd {r : Res D} {σ : L2.St} {Q : VK} (h : wp wd K mg α F H (relD wd K mg) (r.bind fun d S1 => .ok (.ptr S1.length) (S1 ++ [d])) Q (fun c d H' => W c d σ H')) : wpF wd K mg α F H r Q (fun c d H' => W c d σ H') := by
  cases r with
  | ok d S' =>
    intro p H' β F' r1 s1 hp ha hf ho hd
    have h2 : wp wd K mg α F H (relD wd K mg) (.ok (.ptr S'.length) (S' ++ [d])) Q _ := h
    refine h2 (.ref p) H' (β ++ [p]) F' ?_ ⟨fun b hb => ?_, s1.sub, s1.frame, s1.live, s1.fnew⟩ ?_
    · rw [← List.append_assoc]
      exact r1.adopt ha hf ho hd
    · rcases List.mem_append.mp hb with z | z
      · exact s1.new b z
      · have : b = p := by simpa using z
        rw [this]; exact hp
    · rw [← List.append_assoc]
      refine .ptr ?_
      rw [List.getElem?_append_right (by rw [r1.len]; exact Nat.le_refl _), r1.len, Nat.sub_self] <;> rfl
  | err c fs S' => exact h
  | stuck => exact h
/-- name = [..] on one line -/
theorem psd_setLc {i : Nat} {y : Str} {py pos' : Pos} {tg iter elt : Expr} {ifs : List Expr} {scope : Scope} {own : List (Str × Nat)} {t : TG} {tt : TT} {ri : RA} {g : RG} {rt : RB} {re : RE} (hc : X.calm = true) (hN : X.N.Nodup) (hi : PId X W tg iter ri) (ok : BlkOk X.N X.env.scope scope own) (L : PLc X (own.map (·.2)) scope tg elt ifs t tt g rt re)
    (hsw : swapsWith (.ListComp elt [⟨tg, iter, ifs, 0⟩] scope pos) (some (.Name y py)) pos'.line X.env = pure true) (hy : X.N[i]? = some y := by rfl) (hyl : X.env.scope.names.lookup y = some .local := by rfl) (hsx : ∀ x, foldedSetIterable iter X.env x = pure x := by intro _; rfl) :
    PSd X W (.Assign [.Name y py] (.ListComp elt [⟨tg, iter, ifs, 0⟩] scope pos) pos') (sAsg (rKeep (rLc ri g (own.map (·.2)) rt re)) (gName i)) ∧ PSd X W (.Assign [.Name y py] (.ListComp elt [⟨tg, iter, ifs, 0⟩] scope pos) pos') (sAsg (rOwn (rLc ri g (own.map (·.2)) rt re)) (gName i)) := by
  obtain ⟨wi, p1, s1⟩ := hi.ex
  have P := ps_setLc (te := tCanE X.w X.K X.mg W0 re) (i := i) hc hN hy hyl hsw p1 ok (fun s H C cl fp => (L.g s H C cl fp).pg) L.t (fun s H C cl fp => (L.e s H C cl fp).can) hsx
  have nm : ∀ {α β : List Addr} {F F1 H H1 : Hp} {S1 : Sto} {σ : L2.St} {δ : Sl} {E : Ends} {d : D} {v : V}, Slots X.w X.K X.mg F α σ δ → Rel X.w X.K X.mg (α ++ β) F1 H1 S1 → Stp α F H β F1 H1 → DV X.w X.K X.mg F1 (α ++ β) v d → wpS X.w X.K X.mg (α ++ β) F1 H1 ((gName i d δ S1).out δ fun δ1 S2 => .nx δ1 S2) E W → E.nx (σ.set i (some v)) H1 := by
    intro α β F F1 H H1 S1 σ δ E d v hs hr st hv h
    unfold gName at h
    split at h
    · exact wpS.nx h hr ((hs.mono st.sub).set hv)
    · exact h.elim
  refine ⟨⟨_, P, fun α F σ H δ S E hr hs h => ?_⟩, ⟨_, P, fun α F σ H δ S E hr hs h => ?_⟩⟩
  · exact lc_snd s1 L hr hs (wpF.keep (wpS.out h hs fun d S1 _ x H1 β F1 r1 q1 v1 h1 => nm hs r1 q1 v1 h1))
  · exact lc_snd s1 L hr hs (wpF.ownd (wpS.out h hs fun d S1 _ x H1 β F1 r1 q1 v1 h1 => nm hs r1 q1 v1 h1))
/-! ### defs -/
theorem closedK_snd {n : Nat} : ∀ {kvs : List (D × D)}, closedK n kvs = true → closedL n (kvs.map (·.2)) = true
  | [], _ => rfl
  | (k, v) :: r, h => by
    unfold closedK at h
    rw [Bool.and_eq_true, Bool.and_eq_true] at h
    show (D.closed n v && closedL n (r.map (·.2))) = true
    rw [h.1.2, closedK_snd h.2]
    rfl
mutual
theorem DV.shrink {v : V} {d : D} : D.closed α.length d = true → DV wd K mg F (α ++ β) v d → DV wd K mg F α v d
  | _, .non => .non
  | _, .bl b => .bl b
  | _, .int i => .int i
  | _, .str x => .str x
  | h, .tup a t => .tup a (DVs.shrink (by simpa [D.closed] using h) t)
  | h, .tux a t => .tux a (DVs.shrink (by simpa [D.closed] using h) t)
  | h, .lst a t => .lst a (DVs.shrink (by simpa [D.closed] using h) t)
  | h, .ptr e => by
    rename_i k a
    have hk : k < α.length := by simpa [D.closed] using h
    rw [List.getElem?_append_left hk] at e
    exact .ptr e
  | _, .fn e => .fn e
  | _, .ty n => .ty n
  | h, .exc h1 h2 h3 h4 h5 => .exc h1 h2 h3 h4 (DVs.shrink (closedK_snd (by simpa [D.closed] using h)) h5)
  | h, .dc0 h1 h2 => .dc0 h1 (DV.shrink (by simpa [D.closed] using h) h2)
  | h, .lam h1 h2 => .lam h1 (DVs.shrink (by simpa [D.closed] using h) h2)
theorem DVs.shrink {vs : List V} {ds : List D} : closedL α.length ds = true → DVs wd K mg F (α ++ β) vs ds → DVs wd K mg F α vs ds
  | _, .nil => .nil
  | h, .cons a t => by
    unfold closedL at h
    rw [Bool.and_eq_true] at h
    exact .cons (DV.shrink h.1 a) (DVs.shrink h.2 t)
end
theorem NVs.shrink {xs : List (NestedKey × Addr × V)} : ∀ {kvs : List (D × D)}, closedK α.length kvs = true → NVs wd K mg F (α ++ β) xs kvs → NVs wd K mg F α xs kvs := fun {kvs} h q => by
  induction q with
  | nil => exact .nil
  | cons h1 h2 h3 h4 h6 _ ih =>
    unfold closedK at h
    rw [Bool.and_eq_true, Bool.and_eq_true] at h
    exact .cons h1 h2 (h3.shrink h.1.1) h4 (h6.shrink h.1.2) (ih h.2)
theorem Own.shrink {a : Addr} {d : D} (o : Own wd K mg F (α ++ β) H a d) (hc : D.closed α.length d = true) : Own wd K mg F α H a d := by
  cases d with
  | lst ds => obtain ⟨xs, e1, e2⟩ := o; exact ⟨xs, e1, e2.shrink (by simpa [D.closed] using hc)⟩
  | dct kvs => obtain ⟨ws, e1, e2, e3⟩ := o; exact ⟨ws, e1, e2, e3.shrink (closedK_snd (by simpa [D.closed] using hc))⟩
  | dcn kvs => obtain ⟨ws, e1, e2⟩ := o; exact ⟨ws, e1, e2.shrink (by simpa [D.closed] using hc)⟩
  | lck u =>
    cases u with
    | dct kvs => obtain ⟨o, ws, e0, e1, e2, e3⟩ := o; exact ⟨o, ws, e0, e1, e2, e3.shrink (closedK_snd (by simpa [D.closed] using hc))⟩
    | dcn kvs => obtain ⟨o, ws, e0, e1, e2⟩ := o; exact ⟨o, ws, e0, e1, e2.shrink (by simpa [D.closed] using hc)⟩
    | _ => exact o.elim
  | non => trivial
  | lam _ _ _ _ _ => exact o
  | _ => exact o.elim
theorem closedL_get {n : Nat} : ∀ {ds : List D} {k : Nat} {d : D}, closedL n ds = true → ds[k]? = some d → D.closed n d = true
  | [], _, _, _, e => by simp at e
  | d :: r, 0, _, h, e => by
    unfold closedL at h
    rw [Bool.and_eq_true] at h
    simp at e; subst e
    exact h.1
  | d :: r, k + 1, _, h, e => by
    unfold closedL at h
    rw [Bool.and_eq_true] at h
    exact closedL_get (k := k) h.2 (by simpa using e)
theorem Rel.trunc (r : Rel wd K mg (α ++ β) F H S) (h : closedL α.length (S.take α.length) = true) : Rel wd K mg α F H (S.take α.length) := by
  have hl := r.len
  rw [List.length_append] at hl
  refine ⟨r.sub, by rw [List.length_take]; omega, (List.nodup_append.mp r.nd).1, fun a ha => r.here a (List.mem_append_left _ ha), fun k a d h1 h2 => ?_⟩
  have hk : k < α.length := (List.getElem?_eq_some_iff.mp h1).1
  have hc := closedL_get h h2
  rw [List.getElem?_take, if_pos hk] at h2
  obtain ⟨o, q⟩ := r.own k a d (by rw [List.getElem?_append_left hk]; exact h1) h2
  exact ⟨o.shrink hc, q⟩
theorem Rel.give {k : Nat} {a : Addr} {u : D} (r : Rel wd K mg (α ++ β) F H S) (hc : closedL α.length (S.take α.length) = true) (ha : (α ++ β)[k]? = some a) (hk : α.length ≤ k) (hu : S[k]? = some u) (ho : u.owned = true) (hd : D.closed α.length u = true) : a ∈ β ∧ Rel wd K mg (α ++ [a]) F H (S.take α.length ++ [u]) := by
  have r0 := Rel.trunc r hc
  have hb : a ∈ β := by
    rw [List.getElem?_append_right hk] at ha
    exact List.mem_of_getElem? ha
  have hn : a ∉ α := fun h => (List.nodup_append.mp r.nd).2.2 a h a hb rfl
  have hz : u.open = true := by cases u <;> first | rfl | cases ho
  obtain ⟨o1, o2⟩ := r.own k a u ha hu
  exact ⟨hb, r0.adopt hn (o2 hz) (o1.shrink hd) hz⟩
theorem Stp.one {F' H' : Hp} {a : Addr} (s : Stp α F H β F' H') (h : a ∈ β) : Stp α F H [a] F' H' := ⟨fun b hb => by rw [List.mem_singleton.mp hb]; exact s.new a h, s.sub, s.frame, s.live, s.fnew⟩
theorem Stp.drop {F' H' : Hp} (s : Stp α F H β F' H') : Stp α F H [] F' H' := ⟨(fun _ h => nomatch h), s.sub, s.frame, s.live, s.fnew⟩
theorem slots_start {N : List Str} {vs : List V} {ds : List D} (hv : DVs wd K mg F α vs ds) : Slots wd K mg F α (L2.start N vs) (ds.map some ++ List.replicate (N.length - ds.length) none) := by
  have hl := hv.length
  refine ⟨by unfold L2.start; simp [hl], fun i d e => ?_⟩
  unfold L2.start
  by_cases h : i < ds.length
  · rw [List.getElem?_append_left (by simpa using h), List.getElem?_map] at e
    obtain ⟨d', e1⟩ : ∃ d', ds[i]? = some d' := ⟨_, List.getElem?_eq_getElem h⟩
    rw [e1] at e
    have : d' = d := by simpa using e
    subst this
    obtain ⟨v, e2, e3⟩ := hv.get e1
    refine ⟨v, ?_, e3⟩
    rw [List.getElem?_append_left (by rw [List.length_map, hl]; exact h), List.getElem?_map, e2] <;> rfl
  · rw [List.getElem?_append_right (by simpa using h), List.getElem?_replicate] at e
    split at e <;> cases e
theorem fn_G {P : Program} {w : World} {base : Heap} {x qual : Str} {st : Stmt} {f : Addr} {fd : FuncData} {N ps : List Str} {k : Nat} {sp : Sp} (Fu : Fun K x qual st f fd) (Sc : FnScope N ps (defScope st)) (len : ∀ vs H Q E, sp vs H Q E → vs.length = ps.length)
    (hbody : ∀ (cdv : Value) (A : Around) (outer : List Env) (s : Shared) (H : Hp) (vs : List V) (Q : VK) (E : XK), Room k (A.deeper (envOfC qual (defScope st) s.heap.objs.size f cdv)) → A.guards = some [] → sp vs H Q E →
      ∃ t, PSs (cxOf (L2.CX P w) P w K mg base N qual (defScope st) f cdv A outer s H E) (defBody st) t ∧ t ⟨fun _ H' => Q .non H', Q, fun _ _ => False, fun _ _ => False⟩ (L2.start N vs) H) : FnG P w K mg base (k + 1) f fd ps sp := by
  obtain ⟨oc, od, kV, doc, pm, an, cdv, ct, osl, rfl, lk, hcd⟩ := Fu.ex
  refine ⟨len, fun A outer s H args us vs Q E room hG e0 hb rv hsp => ?_⟩
  have kin : K.In s.heap := e0.mod.kin.keeps fun b o e => (e0.bs b o e).1
  have names : ∀ y ∈ ps.zip us, (defScope st).names.lookup y.1 = some .local ∨ ((defScope st).names.lookup y.1 = some .cell ∧ ((cellsFrom (s.heap.objs.size + 1) (defScope st).names []).lookup y.1).isSome = true) := fun y hy =>
    (Sc.par y.1 (List.of_mem_zip hy).1).imp id fun q => ⟨q, PySem.W.cellsFrom_some _ _ _ (.inl q)⟩
  refine codeAny_call_function room.depth (kin _ _ lk) rfl Sc.co Sc.gen rfl (PySem.W.codeRec_of kin hcd) (hb _ _ _ _ (wpAny_newFunctionEnv_cells Sc.kind names fun env he s1 x => ?_))
  subst he
  refine ⟨(e0.mod.nolimit.keeps fun b o e => (e0.bs b o e).1).keeps x.toInCall.keep, codeAny_func ?_⟩
  obtain ⟨t, ht, hq⟩ := hbody cdv A outer s H vs Q E (room.deeper _) hG hsp
  refine wpAny_mono (ht.run [] s1 (L2.start N vs) H _ (inv_start Sc room.hd e0 (len _ _ _ _ hsp) rv x) hq) ?_ fun _ _ hs => hs
  intro fl s' hs
  cases fl with
  | ret u =>
    obtain ⟨v, _, H', J, r, q⟩ := hs
    exact ⟨v, H', J.os, J.bare, J.base, J.hok, r, q⟩
  | next =>
    obtain ⟨_, H', J, q⟩ := hs
    exact ⟨V.non, H', J.os, J.bare, J.base, J.hok, rfl, q⟩
  | brk => obtain ⟨_, _, _, q⟩ := hs; exact q.elim
  | cont => obtain ⟨_, _, _, q⟩ := hs; exact q.elim
theorem fn_okD {P : Program} {w : World} {base : Heap} {x qual : Str} {st : Stmt} {f : Addr} {fd : FuncData} {N ps : List Str} {k : Nat} {r : RS} (Fu : Fun K x qual st f fd) (Sc : FnScope N ps (defScope st))
    (hbody : ∀ (cdv : Value) (A : Around) (outer : List Env) (s : Shared) (H : Hp) (E : XK), Room k (A.deeper (envOfC qual (defScope st) s.heap.objs.size f cdv)) → A.guards = some [] → PSds (cxOf (L2.CX P w) P w K mg base N qual (defScope st) f cdv A outer s H E) (fun cls d _ H => E cls d H) (defBody st) r) :
    FnG P w K mg base (k + 1) f fd ps (spD w K mg ps.length (mDef N.length r)) := by
  refine fn_G Fu Sc (fun vs H Q E h => h.1) fun cdv A outer s H vs Q E hr hG h => ?_
  obtain ⟨hl, α, F, S, ds, h1, h2, h3⟩ := h
  obtain ⟨t, pt, st⟩ := (hbody cdv A outer s H E hr hG).ex
  refine ⟨t, pt, st α F _ H _ S _ h1 (slots_start h2) ?_⟩
  have h3 : wp w K mg α F H (relD w K mg) (mDef N.length r ds S) Q E := h3
  have hl : α.length = S.length := h1.len
  unfold mDef at h3
  rw [← hl] at h3
  have an : α ++ [] = α := List.append_nil α
  cases q : r (ds.map some ++ List.replicate (N.length - ds.length) none) S with
  | nx δ S1 =>
    rw [q] at h3
    dsimp only at h3
    split at h3
    · rename_i hc
      intro σ' H' β F' r1 s1 _
      exact h3 .non H' [] F' (by rw [an]; exact Rel.trunc r1 hc) s1.drop .non
    · exact h3.elim
  | rt d S1 =>
    rw [q] at h3
    dsimp only at h3
    split at h3
    · rename_i hc
      rw [Bool.and_eq_true] at hc
      intro v H' β F' r1 s1 hv
      exact h3 v H' [] F' (by rw [an]; exact Rel.trunc r1 hc.2) s1.drop (by rw [an]; exact DV.shrink hc.1 hv)
    · unfold giveD at h3
      cases d with
      | ptr k =>
        dsimp only at h3
        cases q2 : S1[k]? with
        | none => rw [q2] at h3; exact h3.elim
        | some u =>
          rw [q2] at h3
          dsimp only at h3
          split at h3
          · rename_i hc
            rw [Bool.and_eq_true, Bool.and_eq_true, Bool.and_eq_true, decide_eq_true_eq] at hc
            intro v H' β F' r1 s1 hv
            cases hv with
            | ptr ea =>
              rename_i a
              obtain ⟨g1, g2⟩ := Rel.give r1 hc.2 ea hc.1.2 q2 hc.1.1.1 hc.1.1.2
              exact h3 (.ref a) H' [a] F' g2 (s1.one g1) (.ptr (by rw [List.getElem?_append_right (Nat.le_refl _), Nat.sub_self]; rfl))
          · exact h3.elim
      | _ => exact h3.elim
  | err c fs δ S1 =>
    rw [q] at h3
    dsimp only at h3
    split at h3
    · rename_i hc
      rw [Bool.and_eq_true] at hc
      intro cls dd σ' H' β F' r1 s1 _ he
      refine h3 cls dd H' [] F' (by rw [an]; exact Rel.trunc r1 hc.2) s1.drop ?_
      rw [an]
      refine ⟨he.1, he.2.imp id fun ⟨d, xs, e1, e2, e3, e4⟩ => ⟨d, xs, e1, e2, e3, DVs.shrink hc.1 e4⟩⟩
    · exact h3.elim
  | bk δ S1 => rw [q] at h3; exact h3.elim
  | ct δ S1 => rw [q] at h3; exact h3.elim
  | stuck => rw [q] at h3; exact h3.elim
/-! ### ghost steps -/
theorem psds_freeze {sts : List Stmt} {i : Nat} {r : RS} (h : PSds X W sts r) : PSds X W sts (sSeq (sFreeze i) r) := by
  obtain ⟨t, pt, st⟩ := h.ex
  refine ⟨t, pt, fun α F σ H δ S E hr hs h => ?_⟩
  unfold sSeq sFreeze at h
  cases q : δ[i]? with
  | none => rw [q] at h; exact h.elim
  | some o =>
    rw [q] at h
    cases o with
    | none => exact h.elim
    | some d =>
      cases d with
      | ptr k =>
        cases q2 : S[k]? with
        | none => simp only [q2] at h; exact h.elim
        | some u =>
          cases u with
          | lst ds =>
            simp only [q2] at h
            obtain ⟨v, e1, e2⟩ := hs.2 i _ q
            cases e2 with
            | ptr ea =>
              rename_i a
              obtain ⟨o1, o2⟩ := hr.own k a _ ea q2
              obtain ⟨xs, o3, o4⟩ := o1
              have hf := o2 rfl
              have sb : Sub F (upd F a (.lst xs)) := Sub.new hf
              have an : α ++ [] = α := List.append_nil α
              have st1 : Stp α F H [] (upd F a (.lst xs)) H := ⟨(fun _ h => nomatch h), sb, fun _ _ _ h => h, fun _ h => h, fun b h1 h2 _ => by
                have z : b ≠ a := fun z => h1 (z ▸ List.mem_of_getElem? ea)
                rw [upd_ne z]; exact h2⟩
              have rl : Rel X.w X.K X.mg α (upd F a (.lst xs)) H (S.set k .non) := by
                refine ⟨fun b u e => ?_, by rw [List.length_set]; exact hr.len, hr.nd, hr.here, fun j b u g1 g2 => ?_⟩
                · by_cases z : b = a
                  · subst z; rw [upd_same] at e; rw [o3]; exact e
                  · rw [upd_ne z] at e; exact hr.sub _ _ e
                · by_cases z : j = k
                  · subst z
                    rw [List.getElem?_set_self (List.getElem?_eq_some_iff.mp q2).1] at g2
                    cases g2
                    exact ⟨trivial, fun z => (nomatch z)⟩
                  · rw [List.getElem?_set_ne (Ne.symm z)] at g2
                    obtain ⟨h3, h4⟩ := hr.own j b u g1 g2
                    have y : b ≠ a := fun y => by
                      subst y
                      exact z ((List.getElem_inj hr.nd).mp ((List.getElem?_eq_some_iff.mp g1).2.trans (List.getElem?_eq_some_iff.mp ea).2.symm))
                    have h5 : Own X.w X.K X.mg (upd F a (.lst xs)) (α ++ []) H b u := h3.mono sb rfl
                    rw [an] at h5
                    exact ⟨h5, fun hd => by rw [upd_ne y]; exact h4 hd⟩
              have hs1 : Slots X.w X.K X.mg (upd F a (.lst xs)) α σ δ := by have := hs.mono (β := []) sb; rw [an] at this; exact this
              have hs2 : Slots X.w X.K X.mg (upd F a (.lst xs)) α σ (δ.set i (some (.lst ds))) := by
                refine ⟨by rw [List.length_set]; exact hs1.1, fun j d g => ?_⟩
                by_cases z : j = i
                · subst z
                  rw [List.getElem?_set_self (List.getElem?_eq_some_iff.mp q).1] at g
                  cases g
                  exact ⟨_, e1, .lst (.inl (Rd.of upd_same)) (by have := o4.mono (β := []) sb; rw [an] at this; exact this)⟩
                · rw [List.getElem?_set_ne (Ne.symm z)] at g
                  exact hs1.2 j d g
              have h2 := wpS.step st1 h
              rw [an] at h2
              exact st α _ σ H _ _ E rl hs2 h2
          | _ => simp only [q2] at h; exact h.elim
      | _ => exact h.elim
end
end DL
set_option Elab.async false
set_option linter.all false
set_option maxRecDepth 100000
set_option maxHeartbeats 4000000
set_option autoImplicit false
/-! Data layer, seventh part: operators on data. -/
namespace DL
open PySem PySem.Spec PyProof.Rows L2
/-! ### what they come to -/
def gAdd : Sto → D → D → Option D := fun S d e => match deref S d, deref S e with
  | .int i, .int j => some (.int (i + j))
  | .str x, .str y => if x.length + y.length ≤ sizeLine then some (.str (x ++ y)) else none
  | .tup xs, .tup ys => if xs.length + ys.length ≤ sizeLine then some (.tup (xs ++ ys)) else none
  | _, _ => none
def gCat : Sto → D → D → Option D := fun S d e => match deref S d, deref S e with
  | .lst xs, .lst ys => if xs.length + ys.length ≤ sizeLine then some (.lst (xs ++ ys)) else none
  | _, _ => none
def gSub : Sto → D → D → Option D := fun _ d e => match d, e with
  | .int i, .int j => some (.int (i - j))
  | _, _ => none
/-- the sizes of two factors -/
def mulFits (i j : Int) : Bool := decide (i.natAbs.log2 + j.natAbs.log2 < 100000000) || (decide (i.natAbs < 2 ^ 64) || decide (j.natAbs < 2 ^ 64))
def gMul : Sto → D → D → Option D := fun _ d e => match d, e with
  | .int i, .int j => if mulFits i j then some (.int (i * j)) else none
  | _, _ => none
def gDiv : Sto → D → D → Option D := fun _ d e => match d, e with
  | .int i, .int j => if j ≠ 0 ∧ j.natAbs.log2 < 9000 then some (.int (i.fdiv j)) else none
  | _, _ => none
def gMod : Sto → D → D → Option D := fun _ d e => match d, e with
  | .int i, .int j => if j ≠ 0 then some (.int (i.fmod j)) else none
  | _, _ => none
def gPow : Sto → D → D → Option D := fun _ d e => match d, e with
  | .int i, .int j => if 0 ≤ j ∧ ((j ≤ 1000000 ∧ i.natAbs < 2 ^ 64) ∨ (Builtin.Int.intBits i : Int) * j ≤ 2 ^ 27) then some (.int (i ^ j.toNat)) else none
  | _, _ => none
def gNeg : Sto → D → Option D := fun _ d => match d with
  | .int i => some (.int (-i))
  | _ => none
def gLt : Sto → D → D → Option D := fun _ d e => match d, e with
  | .int i, .int j => some (.bl (decide (i < j)))
  | _, _ => none
def gLe : Sto → D → D → Option D := fun _ d e => match d, e with
  | .int i, .int j => some (.bl (decide (i ≤ j)))
  | _, _ => none
def gGt : Sto → D → D → Option D := fun _ d e => match d, e with
  | .int i, .int j => some (.bl (decide (j < i)))
  | _, _ => none
def gGe : Sto → D → D → Option D := fun _ d e => match d, e with
  | .int i, .int j => some (.bl (decide (j ≤ i)))
  | _, _ => none
mutual
/-- as the model's data -/
def toPy (S : Sto) : D → Option PyData
  | .non => some .none
  | .bl b => some (.bool b)
  | .int i => some (.int i)
  | .str x => some (.str x)
  | .tup xs => (toPys S xs).map .tuple
  | .lst xs => (toPys S xs).map .list
  | _ => none
def toPys (S : Sto) : List D → Option (List PyData)
  | [] => some []
  | d :: r => match toPy S d, toPys S r with
    | some x, some xs => some (x :: xs)
    | _, _ => none
end
def eqD (S : Sto) (d e : D) : Option Bool := match toPy S (deref S d), toPy S (deref S e) with
  | some x, some y => if SeqAt.shaped x && SeqAt.shaped y then some (PyData.eqv x y) else none
  | _, _ => none
def gEq : Sto → D → D → Option D := fun S d e => (eqD S d e).map .bl
def gNe : Sto → D → D → Option D := fun S d e => (eqD S d e).map fun b => .bl (!b)
def gIs : Sto → D → D → Option D := fun _ d e => match e with
  | .non => (match d with
    | .non => some (.bl true)
    | .ptr _ => some (.bl false)
    | _ => some (.bl false))
  | .bl b => (match d with
    | .bl a => some (.bl (decide (a = b)))
    | _ => none)
  | _ => none
def gIsN : Sto → D → D → Option D := fun S d e => match gIs S d e with
  | some (.bl b) => some (.bl (!b))
  | _ => none
section
variable {X : Cx} {W : WX} {a b c e : Expr} {es rest : List Expr} {ra rb rc : RE} {ba bb : RB} {rs : RA} {pos p : Pos} {wd : World} {K : Fg} {mg : Str → Option Value} {α β : List Addr} {F F1 H H1 : Hp} {S : Sto}
/-- two ints by a rule -/
theorem opg_int {f : Value → Value → Sem Value} {C : Int → Int → Prop} {h : Int → Int → Int} {g : Sto → D → D → Option D} (ho : OpR X f (rI C fun i j => .int (h i j)))
    (hg : ∀ S d e z, g S d e = some z → ∃ i j, d = .int i ∧ e = .int j ∧ C i j ∧ z = .int (h i j)) : OpG X f g := by
  refine ⟨_, ho, fun α F H S x y d e z Q hr hx hy hz q => ?_⟩
  obtain ⟨i, j, rfl, rfl, hc, rfl⟩ := hg S d e z hz
  cases hx; cases hy
  have an : α ++ [] = α := List.append_nil α
  exact ⟨i, j, rfl, rfl, hc, q _ H [] F (by rw [an]; exact hr) Stp.refl (.int _)⟩
theorem g_sub : OpG X (binaryOp .Sub) gSub := by
  refine ⟨_, op_sub, fun α F H S x y d e z Q hr hx hy hz q => ?_⟩
  unfold gSub at hz
  split at hz
  · cases hz; cases hx; cases hy
    have an : α ++ [] = α := List.append_nil α
    exact ⟨_, _, rfl, rfl, q _ H [] F (by rw [an]; exact hr) Stp.refl (.int _)⟩
  · cases hz
theorem mulFits_ok {i j : Int} (h : mulFits i j = true) : IntMulOk i j := by
  unfold mulFits at h
  rw [Bool.or_eq_true, Bool.or_eq_true] at h
  rcases h with h | h | h
  · have hl := of_decide_eq_true h
    have hb : ∀ k : Int, Builtin.Int.intBits k ≤ k.natAbs.log2 + 1 := fun k => by
      unfold Builtin.Int.intBits
      split
      · exact Nat.zero_le _
      · exact Nat.le_refl _
    exact IntMulOk.of_le (hb i) (hb j) (by omega)
  · have := of_decide_eq_true h
    exact CMul.ok (.inl ⟨by omega, by omega⟩)
  · have := of_decide_eq_true h
    exact CMul.ok (.inr ⟨by omega, by omega⟩)
theorem op_mulX : OpR X (binaryOp .Mult) (rI (fun i j => mulFits i j = true) fun i j => .int (i * j)) := opI fun _ _ _ _ _ _ _ hc q => mul_int q (mulFits_ok hc)
theorem g_mul : OpG X (binaryOp .Mult) gMul := opg_int op_mulX fun S d e z h => by
  unfold gMul at h
  split at h
  · split at h
    · rename_i q
      cases h
      exact ⟨_, _, rfl, rfl, q, rfl⟩
    · cases h
  · cases h
theorem op_fdivA : OpR X (binaryOp .FloorDiv) (rI (fun _ j => j ≠ 0 ∧ j.natAbs.log2 < 9000) fun i j => .int (i.fdiv j)) := opI fun i j _ _ _ _ _ hc q => floordiv_int hc.1 q (.inl (PyProof.noPylong_of_log2 hc.2))
theorem g_div : OpG X (binaryOp .FloorDiv) gDiv := opg_int op_fdivA fun S d e z h => by
  unfold gDiv at h
  split at h
  · split at h
    · rename_i q
      cases h
      exact ⟨_, _, rfl, rfl, q, rfl⟩
    · cases h
  · cases h
theorem g_mod : OpG X (binaryOp .Mod) gMod := opg_int op_modN fun S d e z h => by
  unfold gMod at h
  split at h
  · split at h
    · rename_i q
      cases h
      exact ⟨_, _, rfl, rfl, q, rfl⟩
    · cases h
  · cases h
def CPowW (i j : Int) : Prop := 0 ≤ j ∧ ((j ≤ 1000000 ∧ i.natAbs < 2 ^ 64) ∨ (Builtin.Int.intBits i : Int) * j ≤ 2 ^ 27)
theorem op_powW : OpR X (binaryOp .Pow) (rI CPowW fun i j => .int (i ^ j.toNat)) := opI fun _ _ _ _ _ _ _ hc q => by
  rcases hc with ⟨h0, ⟨h1, h2⟩ | h1⟩
  · exact pow_int_small h0 h1 h2 q
  · exact PyProof.Rows.pow_int h0 h1 q
theorem g_pow : OpG X (binaryOp .Pow) gPow := by
  refine ⟨_, op_powW, fun α F H S x y d e z Q hr hx hy hz q => ?_⟩
  unfold gPow at hz
  split at hz
  · split at hz
    · rename_i hc
      cases hz; cases hx; cases hy
      have an : α ++ [] = α := List.append_nil α
      exact ⟨_, _, rfl, rfl, hc, q _ H [] F (by rw [an]; exact hr) Stp.refl (.int _)⟩
    · cases hz
  · cases hz
theorem u_neg : OkU X (rU fun i => .int (-i)) gNeg := by
  intro α F H S x d z Q hr hx hz q
  unfold gNeg at hz
  split at hz
  · cases hz; cases hx
    have an : α ++ [] = α := List.append_nil α
    exact ⟨_, rfl, q _ H [] F (by rw [an]; exact hr) Stp.refl (.int _)⟩
  · cases hz
theorem pd_neg (ha : PD X W a ra) : PD X W (.UnaryOp .USub a pos) (rUn gNeg ra) := pd_un un_neg u_neg ha
/-! ### ==, != -/
mutual
theorem DV.dp {v : V} : ∀ {d : D} {x : PyData}, DV wd K mg F α v d → toPy S d = some x → Sub F H → Dp K H v x
  | _, _, .non, e, _ => by cases e; exact .non
  | _, _, .bl b, e, _ => by cases e; exact .bl b
  | _, _, .int i, e, _ => by cases e; exact .int i
  | _, _, .str y, e, _ => by cases e; exact .str y
  | _, _, .tup h t, e, s => by
    rename_i ds
    unfold toPy at e
    cases q : toPys S ds with
    | none => rw [q] at e; cases e
    | some ys => rw [q] at e; cases e; exact .tup (s.sqT h.1) (DVs.dp t q s)
  | _, _, .lst h t, e, s => by
    rename_i ds
    unfold toPy at e
    cases q : toPys S ds with
    | none => rw [q] at e; cases e
    | some ys => rw [q] at e; cases e; exact .lst (s.sqL h) (DVs.dp t q s)
  | _, _, .tux _ _, e, _ => by cases e
  | _, _, .ptr _, e, _ => by cases e
  | _, _, .fn _, e, _ => by cases e
  | _, _, .ty _, e, _ => by cases e
  | _, _, .exc _ _ _ _ _, e, _ => by cases e
  | _, _, .dc0 _ _, e, _ => by cases e
  | _, _, .lam _ _, e, _ => by cases e
theorem DVs.dp {vs : List V} : ∀ {ds : List D} {xs : List PyData}, DVs wd K mg F α vs ds → toPys S ds = some xs → Sub F H → DpAll K H vs xs
  | _, _, .nil, e, _ => by cases e; exact .nil
  | _, _, .cons h t, e, s => by
    rename_i d _ ds
    unfold toPys at e
    cases q1 : toPy S d with
    | none => rw [q1] at e; cases e
    | some x =>
      cases q2 : toPys S ds with
      | none => rw [q1, q2] at e; cases e
      | some xs => rw [q1, q2] at e; cases e; exact .cons (DV.dp h q1 s) (DVs.dp t q2 s)
end
theorem Rel.dp (hr : Rel wd K mg α F H S) {v : V} {d : D} {x : PyData} (h : DV wd K mg F α v d) (e : toPy S (deref S d) = some x) : Dp K H v x := by
  have s := hr.see h
  generalize deref S d = dd at e s
  cases s with
  | «at» h _ => exact h.dp e hr.sub
  | dead => cases e
  | lst q t =>
    rename_i ds
    unfold toPy at e
    cases q2 : toPys S ds with
    | none => rw [q2] at e; cases e
    | some ys => rw [q2] at e; cases e; exact .lst (SqL.of q) (t.dp q2 hr.sub)
  | dct _ _ _ => cases e
  | dcn _ _ => cases e
theorem Rel.eqD (hr : Rel wd K mg α F H S) {v u : V} {d e : D} {k : Bool} (h1 : DV wd K mg F α v d) (h2 : DV wd K mg F α u e) (q : DL.eqD S d e = some k) : ∃ x y, Dp K H v x ∧ Dp K H u y ∧ SeqAt.shaped x = true ∧ SeqAt.shaped y = true ∧ k = PyData.eqv x y := by
  unfold DL.eqD at q
  split at q
  · rename_i x y e1 e2
    split at q
    · rename_i hc
      rw [Bool.and_eq_true] at hc
      cases q
      exact ⟨x, y, hr.dp h1 e1, hr.dp h2 e2, hc.1, hc.2, rfl⟩
    · cases q
  · cases q
theorem g_eq (hu : X.A.units + 64 < cLine) : OpG X (compareOp .Eq) gEq := by
  refine ⟨_, op_eqD hu, fun α F H S x y d e z Q hr hx hy hz q => ?_⟩
  unfold gEq at hz
  cases q1 : DL.eqD S d e with
  | none => rw [q1] at hz; cases hz
  | some k =>
    rw [q1] at hz; cases hz
    obtain ⟨x', y', a1, a2, a3, a4, rfl⟩ := hr.eqD hx hy q1
    have an : α ++ [] = α := List.append_nil α
    exact ⟨x', y', a1, a2, a3, a4, q _ H [] F (by rw [an]; exact hr) Stp.refl (.bl _)⟩
theorem g_ne (hu : X.A.units + 64 < cLine) : OpG X (compareOp .NotEq) gNe := by
  refine ⟨_, op_neD hu, fun α F H S x y d e z Q hr hx hy hz q => ?_⟩
  unfold gNe at hz
  cases q1 : DL.eqD S d e with
  | none => rw [q1] at hz; cases hz
  | some k =>
    rw [q1] at hz; cases hz
    obtain ⟨x', y', a1, a2, a3, a4, rfl⟩ := hr.eqD hx hy q1
    have an : α ++ [] = α := List.append_nil α
    exact ⟨x', y', a1, a2, a3, a4, q _ H [] F (by rw [an]; exact hr) Stp.refl (.bl _)⟩
/-! ### is -/
theorem g_is : OpG X (compareOp .Is) gIs := by
  refine ⟨_, op_isN.or op_isBl, fun α F H S x y d e z Q hr hx hy hz q => ?_⟩
  have an : α ++ [] = α := List.append_nil α
  have fin : ∀ k, z = .bl k → Q (.bl k) H := fun k ek => by subst ek; exact q _ H [] F (by rw [an]; exact hr) Stp.refl (.bl _)
  unfold gIs at hz
  split at hz
  · cases hy
    refine .inl ⟨rfl, fin _ ?_⟩
    cases hx <;> cases hz <;> rfl
  · cases hy
    split at hz
    · cases hx
      cases hz
      exact .inr ⟨_, _, rfl, rfl, fin _ rfl⟩
    · cases hz
  · cases hz
theorem g_isN : OpG X (compareOp .IsNot) gIsN := by
  refine ⟨_, op_notN.or op_notBl, fun α F H S x y d e z Q hr hx hy hz q => ?_⟩
  have an : α ++ [] = α := List.append_nil α
  have fin : ∀ k, z = .bl k → Q (.bl k) H := fun k ek => by subst ek; exact q _ H [] F (by rw [an]; exact hr) Stp.refl (.bl _)
  unfold gIsN at hz
  split at hz
  · rename_i k q1
    cases hz
    unfold gIs at q1
    split at q1
    · cases hy
      refine .inl ⟨rfl, fin _ ?_⟩
      cases hx <;> cases q1 <;> rfl
    · cases hy
      split at q1
      · cases hx
        cases q1
        exact .inr ⟨_, _, rfl, rfl, fin _ rfl⟩
      · cases q1
    · cases q1
  · cases hz
end
end DL
set_option Elab.async false
set_option linter.all false
set_option maxRecDepth 100000
set_option maxHeartbeats 4000000
set_option autoImplicit false
/-! Data layer, eighth part: built-in functions, methods of texts, items, slices. -/
namespace DL
open PySem PySem.Spec PyProof.Rows L2
def tyName (S : Sto) (d : D) : Option String := match deref S d with
  | .non => some "NoneType"
  | .bl _ => some "bool"
  | .int _ => some "int"
  | .str _ => some "str"
  | .tup _ => some "tuple"
  | .lst _ => some "list"
  | .dct _ => some "dict"
  | _ => none
def gIsi : Sto → List D → Option D := fun S ds => match ds with
  | [d, .ty T] => (tyName S d).bind fun t => (kitB t T).map .bl
  | _ => none
def gLen : Sto → List D → Option D := fun S ds => match ds with
  | [d] => (match deref S d with
    | .str y => if y.length ≤ sizeLine then some (.int y.length) else none
    | .tup xs => some (.int xs.length)
    | .lst xs => some (.int xs.length)
    | _ => none)
  | _ => none
def gAbs : Sto → List D → Option D := fun _ ds => match ds with
  | [.int i] => some (.int (if i < 0 then -i else i))
  | _ => none
def gInt : Sto → List D → Option D := fun _ ds => match ds with
  | [.int i] => some (.int i)
  | [.bl k] => some (.int (if k then 1 else 0))
  | [.str a] => (match intText? a with
    | some n => if a.length ≤ 640 then some (.int n) else none
    | none => none)
  | _ => none
def asBls : List D → Option (List Bool)
  | [] => some []
  | .bl b :: r => (asBls r).map (b :: ·)
  | _ => none
def asInts : List D → Option (List Int)
  | [] => some []
  | .int b :: r => (asInts r).map (b :: ·)
  | _ => none
def gAll : Sto → List D → Option D := fun S ds => match ds with
  | [d] => (match deref S d with
    | .lst xs => (asBls xs).map fun bs => .bl (bs.all id)
    | _ => none)
  | _ => none
def gSum : Sto → List D → Option D := fun S ds => match ds with
  | [d] => (match deref S d with
    | .lst xs => (asInts xs).map fun bs => .int bs.sum
    | _ => none)
  | _ => none
section
variable {X : Cx} {W : WX} {a b c e : Expr} {es rest : List Expr} {ra rb rc : RE} {ba bb : RB} {rs : RA} {pos p : Pos} {wd : World} {K : Fg} {mg : Str → Option Value} {α β : List Addr} {F F1 H H1 : Hp} {S : Sto}
theorem asBls_eq : ∀ {xs : List D} {bs : List Bool}, asBls xs = some bs → xs = bs.map .bl
  | [], _, h => by cases h; rfl
  | .bl b :: r, _, h => by
    unfold asBls at h
    cases q : asBls r with
    | none => rw [q] at h; cases h
    | some ys => rw [q] at h; cases h; rw [asBls_eq q]; rfl
theorem asInts_eq : ∀ {xs : List D} {bs : List Int}, asInts xs = some bs → xs = bs.map .int
  | [], _, h => by cases h; rfl
  | .int b :: r, _, h => by
    unfold asInts at h
    cases q : asInts r with
    | none => rw [q] at h; cases h
    | some ys => rw [q] at h; cases h; rw [asInts_eq q]; rfl
/-- the end of a rule that changes nothing -/
theorem fin_now {v : V} {z : D} {Q : VK} (hr : Rel wd K mg α F H S) (hv : DV wd K mg F α v z) (q : ∀ v H' β F', Rel wd K mg (α ++ β) F' H' S → Stp α F H β F' H' → DV wd K mg F' (α ++ β) v z → Q v H') : Q v H := by
  have an : α ++ [] = α := List.append_nil α
  exact q v H [] F (by rw [an]; exact hr) Stp.refl (by rw [an]; exact hv)
theorem pd_ty {x : Str} {n : String} (hm : X.mg x = none) (hg : Gl X x := by rfl) (hv : bootBuiltins x = some (.type n) := by decide +kernel) (hn : x ≠ "__name__" := by decide) (hd : (x == ("__debug__" : Str)) = false := by decide) : PD X W (.Name x pos) (rC (.ty n)) :=
  pd_c (v := .ty n) (pe_bltn hg hm hv rfl hn hd) fun _ _ => .ty n
theorem Rel.tyX (hr : Rel wd K mg α F H S) {v : V} {d : D} {t : String} (h : DV wd K mg F α v d) (e : tyName S d = some t) : TyX K H v (.type t) := by
  have s := hr.see h
  unfold tyName at e
  generalize deref S d = dd at e s
  cases s with
  | «at» h hp =>
    cases h with
    | non => cases e; exact .base .non
    | bl b => cases e; exact .base (.bl b)
    | int i => cases e; exact .base (.int i)
    | str x => cases e; exact .base (.str x)
    | tup q t =>
      cases e
      rcases hr.sub.sqT q.1 with (q | ⟨o, q⟩) | ⟨o, its, n, q, c, _⟩
      · exact .base (.tup q)
      · exact .fTuple q
      · exact .kTuple q c
    | lst q t =>
      cases e
      rcases hr.sub.sqL q with (q | ⟨o, q⟩) | ⟨o, its, n, q, c, _⟩
      · exact .base (.lst q)
      · exact .base (.frz q)
      · exact .kList q c
    | tux q t => cases e
    | ptr _ => exact absurd rfl (hp _)
    | fn _ => cases e
    | ty _ => cases e
    | exc _ _ _ _ _ => cases e
    | dc0 _ _ => cases e
    | lam _ _ => cases e
  | dead => cases e
  | lst q t => cases e; exact .base (.lst q)
  | dct q k t =>
    cases e
    rcases q with q | ⟨o, q⟩
    · exact .base (.dK q)
    · exact .fDict q
  | dcn _ _ => cases e
theorem b_isi : BiG X (.builtin "isinstance") gIsi := by
  refine ⟨_, call_isi, fun α F H S xs ds z Q hr hv hz q => ?_⟩
  unfold gIsi at hz
  split at hz
  · rename_i d T
    cases hv with
    | cons h1 h2 =>
      cases h2 with
      | cons h2 h3 =>
        cases h3
        cases h2
        rename_i v
        cases e1 : tyName S d with
        | none => rw [e1] at hz; cases hz
        | some t =>
          rw [e1] at hz
          cases e2 : kitB t T with
          | none => rw [Option.bind_some, e2] at hz; cases hz
          | some k =>
            rw [Option.bind_some, e2] at hz
            cases hz
            exact ⟨v, .ty T, .type t, .type T, k, rfl, .ty T, hr.tyX h1 e1, kit_ty e2, fin_now hr (.bl _) q⟩
  · cases hz
theorem b_len : BiG X (.builtin "len") gLen := by
  refine ⟨_, call_len, fun α F H S xs ds z Q hr hv hz q => ?_⟩
  unfold gLen at hz
  split at hz
  · rename_i d
    cases hv with
    | cons h1 h2 =>
      cases h2
      rename_i v
      split at hz
      · rename_i y e
        split at hz
        · rename_i hl
          cases hz
          have := hr.viewS h1 e
          subst this
          exact ⟨_, y.length, rfl, ⟨hl, rfl⟩, fin_now hr (.int _) q⟩
        · cases hz
      · rename_i ys e
        cases hz
        obtain ⟨a, us, rfl, h3, h4⟩ := hr.viewT h1 e
        exact ⟨_, us.length, rfl, .inr ⟨us, h3, rfl⟩, by rw [h4.length]; exact fin_now hr (.int _) q⟩
      · rename_i ys e
        cases hz
        obtain ⟨a, us, rfl, h3, h4⟩ := hr.viewL h1 e
        exact ⟨_, us.length, rfl, .inl ⟨us, h3, rfl⟩, by rw [h4.length]; exact fin_now hr (.int _) q⟩
      · cases hz
  · cases hz
theorem b_int : BiG X (.type "int") gInt := by
  refine ⟨_, call_int1.or call_int_str, fun α F H S xs ds z Q hr hv hz q => ?_⟩
  unfold gInt at hz
  split at hz
  · cases hz
    cases hv with
    | cons h1 h2 => cases h2; cases h1; exact .inl (.inl ⟨_, rfl, fin_now hr (.int _) q⟩)
  · cases hz
    cases hv with
    | cons h1 h2 => cases h2; cases h1; exact .inl (.inr ⟨_, rfl, fin_now hr (.int _) q⟩)
  · cases hv with
    | cons h1 h2 =>
      cases h2; cases h1
      split at hz
      · rename_i n e
        split at hz
        · rename_i hl
          cases hz
          exact .inr ⟨_, n, rfl, e, hl, fin_now hr (.int _) q⟩
        · cases hz
      · cases hz
  · cases hz
theorem b_all (hc : X.calm = true) : BiG X (.builtin "all") gAll := by
  refine ⟨_, cr_all hc, fun α F H S xs ds z Q hr hv hz q => ?_⟩
  unfold gAll at hz
  split at hz
  · rename_i d
    cases hv with
    | cons h1 h2 =>
      cases h2
      split at hz
      · rename_i ys e
        cases e2 : asBls ys with
        | none => rw [e2] at hz; cases hz
        | some bs =>
          rw [e2] at hz; cases hz
          obtain ⟨a, us, rfl, h3, h4⟩ := hr.viewL h1 e
          rw [asBls_eq e2] at h4
          rw [h4.bls] at h3
          exact ⟨a, bs, rfl, h3, fin_now hr (.bl _) q⟩
      · cases hz
  · cases hz
theorem b_sum (hc : X.calm = true) : BiG X (.builtin "sum") gSum := by
  refine ⟨_, cr_sum hc, fun α F H S xs ds z Q hr hv hz q => ?_⟩
  unfold gSum at hz
  split at hz
  · rename_i d
    cases hv with
    | cons h1 h2 =>
      cases h2
      split at hz
      · rename_i ys e
        cases e2 : asInts ys with
        | none => rw [e2] at hz; cases hz
        | some bs =>
          rw [e2] at hz; cases hz
          obtain ⟨a, us, rfl, h3, h4⟩ := hr.viewL h1 e
          rw [asInts_eq e2] at h4
          rw [h4.ints] at h3
          exact ⟨a, bs, rfl, h3, fin_now hr (.int _) q⟩
      · cases hz
  · cases hz
end
end DL
set_option Elab.async false
set_option linter.all false
set_option maxRecDepth 100000
set_option maxHeartbeats 4000000
set_option autoImplicit false
/-! Data layer, ninth part: repr, methods, texts, items, slices, lists that are made. -/
namespace DL
open PySem PySem.Spec PyProof.Rows L2
section
variable {X : Cx} {W : WX} {a b c e : Expr} {es rest : List Expr} {ra rb rc : RE} {ba bb : RB} {rs : RA} {pos p : Pos} {wd : World} {K : Fg} {mg : Str → Option Value} {α β : List Addr} {F F1 H H1 : Hp} {S : Sto}
instance (x : Str) (n : Int) : Decidable (MulOk x n) := by unfold MulOk; infer_instance
theorem g_add : OpG X (binaryOp .Add) gAdd := by
  refine ⟨_, (op_add.or op_add_str).or op_catP, fun α F H S x y d e z Q hr hx hy hz q => ?_⟩
  unfold gAdd at hz
  split at hz
  · rename_i e1 e2
    cases hz
    have := hr.viewI hx e1
    have := hr.viewI hy e2
    subst x; subst y
    exact .inl (.inl ⟨_, _, rfl, rfl, fin_now hr (.int _) q⟩)
  · rename_i e1 e2
    split at hz
    · rename_i hl
      cases hz
      have := hr.viewS hx e1
      have := hr.viewS hy e2
      subst x; subst y
      exact .inl (.inr ⟨_, _, rfl, rfl, hl, fin_now hr (.str _) q⟩)
    · cases hz
  · rename_i xs ys e1 e2
    split at hz
    · rename_i hl
      cases hz
      obtain ⟨a, us, rfl, a1, a2⟩ := hr.viewT hx e1
      obtain ⟨b, ws, rfl, b1, b2⟩ := hr.viewT hy e2
      refine .inr ⟨a, b, us, ws, rfl, rfl, a1, b1, by rw [a2.length, b2.length]; exact hl, fun en => ?_, fun _ en => ?_, fun n1 n2 p hp o ho => ?_⟩
      · subst en
        have en : xs = [] := by cases a2; rfl
        subst en
        have sy := hr.see hy
        rw [e2] at sy
        cases sy with
        | «at» h _ => exact fin_now hr h q
      · subst en
        have en : ys = [] := by cases b2; rfl
        subst en
        rw [List.append_nil] at q
        have sx := hr.see hx
        rw [e1] at sx
        cases sx with
        | «at» h _ => exact fin_now hr h q
      · obtain ⟨c1, c2, c3⟩ := hr.tup (a2.append b2) hp ho
        exact q _ _ _ _ c1 c2 c3
    · cases hz
  · cases hz
/-! ### repr -/
end
end DL
set_option Elab.async false
set_option linter.all false
set_option maxRecDepth 100000
set_option maxHeartbeats 4000000
set_option autoImplicit false
/-! Data layer, tenth part: methods, lists that are made, items, slices. -/
namespace DL
open PySem PySem.Spec PyProof.Rows L2
/-! ### what they come to -/
/-- the type by whose method it goes -/
def isTy (T : String) (S : Sto) (d : D) : Bool := match deref S d with
  | .str _ => T == "str"
  | .lst _ => T == "list"
  | .dct _ => T == "dict"
  | _ => false
/-- a method: the receiver's type is looked at ahead of the arguments -/
def rMeth (T : String) (g : Sto → D → List D → Option (D × Sto)) (a : RE) (as : RA) : RE := fun δ S => (a δ S).bind fun x S1 => if isTy T S1 x then (as δ S1).bind fun ys S2 => match g S2 x ys with
  | some (z, S3) => .ok z S3
  | none => .stuck else .stuck
def mAppend : Sto → D → List D → Option (D × Sto) := fun S d ds => match d, ds with
  | .ptr k, [y] => (match S[k]? with
    | some (.lst xs) => if xs.length < sizeLine then some (.non, S.set k (.lst (xs ++ [y]))) else none
    | _ => none)
  | _, _ => none
def mInsert : Sto → D → List D → Option (D × Sto) := fun S d ds => match d, ds with
  | .ptr k, [.int i, y] => (match S[k]? with
    | some (.lst xs) => if xs.length < sizeLine ∧ 0 ≤ i ∧ i < 2 ^ 63 then some (.non, S.set k (.lst (xs.take i.toNat ++ [y] ++ xs.drop i.toNat))) else none
    | _ => none)
  | _, _ => none
/-- an item of a list, a tuple, a text -/
def gIx : Sto → D → D → Option D := fun S d e => match deref S d, e with
  | .lst xs, .int i => atI xs i
  | .tup xs, .int i => atI xs i
  | .str z, .int i => if z.length ≤ sizeLine then (atI z.cps.toList i).map fun c => .str ⟨#[c]⟩ else none
  | _, _ => none
/-- a part: from, to -/
def cutD {A : Type} (xs : List A) (lo hi : Option Int) : List A := (xs.drop (HT.sIx xs.length 0 lo)).take (HT.sIx xs.length xs.length hi - HT.sIx xs.length 0 lo)
abbrev RO := Sl → Sto → Res (Option Int)
def oNone : RO := fun _ S => .ok none S
def oSome (a : RE) : RO := fun δ S => (a δ S).bind fun x S1 => match x with
  | .int i => .ok (some i) S1
  | _ => .stuck
def rCut (a : RE) (l h : RO) : RE := fun δ S => (a δ S).bind fun x S1 => (l δ S1).bind fun i S2 => (h δ S2).bind fun j S3 => match deref S3 x with
  | .lst xs => .ok (.lst (cutD xs i j)) S3
  | .tup xs => .ok (.tup (cutD xs i j)) S3
  | .str z => if z.length ≤ sizeLine then .ok (.str (cutS z i j)) S3 else .stuck
  | _ => .stuck
section
variable {X : Cx} {W : WX} {a b c e : Expr} {es rest : List Expr} {ra rb rc : RE} {ba bb : RB} {rs : RA} {pos p : Pos} {wd : World} {K : Fg} {mg : Str → Option Value} {α β : List Addr} {F F1 H H1 : Hp} {S : Sto}
theorem isTy_ok (hr : Rel wd K mg α F H S) {v : V} {d : D} {T : String} (h : DV wd K mg F α v d) (e : isTy T S d = true) (hT : T ≠ "dict") : tyV K T v H := by
  have s := hr.see h
  unfold isTy at e
  generalize deref S d = dd at e s
  cases s with
  | «at» h hp =>
    cases h with
    | str x => exact beq_iff_eq.mp e
    | lst q t => exact .inl ⟨beq_iff_eq.mp e, _, hr.sub.sqL q⟩
    | ptr _ => exact absurd rfl (hp _)
    | _ => cases e
  | dead => cases e
  | lst q t => exact .inl ⟨beq_iff_eq.mp e, _, SqL.of q⟩
  | dct q k t => exact absurd (beq_iff_eq.mp e) hT
  | dcn q t => cases e
def OkM (X : Cx) (r : V → List V → Hp → VK → Prop) (g : Sto → D → List D → Option (D × Sto)) : Prop := ∀ α F H S (x : V) (xs : List V) (d : D) (ds : List D) (z : D) (S' : Sto) (Q : VK), Rel X.w X.K X.mg α F H S → DV X.w X.K X.mg F α x d → DVs X.w X.K X.mg F α xs ds → g S d ds = some (z, S') →
  (∀ v H' β F', Rel X.w X.K X.mg (α ++ β) F' H' S' → Stp α F H β F' H' → DV X.w X.K X.mg F' (α ++ β) v z → Q v H') → r x xs H Q
structure MdG (X : Cx) (id : String) (g : Sto → D → List D → Option (D × Sto)) : Prop where
  ex : ∃ r, MtR X id r ∧ OkM X r g
theorem pd_meth {o : Expr} {name : Str} {T id : String} {g : Sto → D → List D → Option (D × Sto)} {apos cpos : Pos} {ro : RE} (hm : MdG X id g) (pa : PlainAttrs T) (slot : Slot T name id) (hty : typeOf (.builtin id) = pure (.type "method_descriptor")) (ho : PD X W o ro) (ha : PDs X W (e :: es) rs) (hT : T ≠ "dict" := by decide)
    (hbase : attributeBase o name X.env (eval o X.env) = eval o X.env := by rfl)
    (hfew : ((backTo cpos (starEach (e :: es) X.env)).all (fun x => !x.1) && (backToKw cpos (keywordEach [] X.env)).all (fun x => x.1.isSome) && decide ((e :: es).length + ([] : List Keyword).length + (if ([] : List Keyword).isEmpty then 0 else 1) < 30)) = true := by rfl)
    (hline : (apos.endLine == cpos.line) = true := by rfl) (hs : starEach (e :: es) X.env = (false, eval e X.env) :: starEach es X.env := by rfl) (hplain : (backTo cpos (starEach es X.env)).any (·.1) = false := by rfl) :
    PD X W (.Call (.Attribute o name apos) (e :: es) [] cpos) (rMeth T g ro rs) := by
  obtain ⟨r, h1, h2⟩ := hm.ex
  obtain ⟨to, po, so⟩ := ho.ex
  obtain ⟨t, pt, st⟩ := ha.ex
  refine ⟨_, pe_bm pa slot hty h1 po pt hbase hfew hline hs hplain, fun α F σ H δ S Q hr hs h => ?_⟩
  refine so α F σ H δ S _ hr hs (wp.bind h fun d S1 _ x H1 β F1 r1 q1 v1 h1 => ?_)
  split at h1
  · rename_i ety
    refine ⟨isTy_ok r1 v1 ety hT, ?_⟩
    refine st (α ++ β) F1 σ H1 δ S1 _ r1 (hs.mono q1.sub) (wp.bind h1 fun ds S2 _ xs H2 γ F2 r2 q2 v2 h3 => ?_)
    cases eg : g S2 d ds with
    | none => rw [eg] at h3; exact h3.elim
    | some zs =>
      obtain ⟨z, S3⟩ := zs
      rw [eg] at h3
      exact h2 _ F2 H2 S2 x xs d ds z S3 Q r2 (v1.mono q2.sub) v2 eg fun v H' ε F' r3 s3 v3 => h3 v H' ε F' r3 s3 v3
  · exact h1.elim
theorem m_append : MdG X "list.append" mAppend := by
  refine ⟨rAppend, mt_append, fun α F H S x xs d ds z S' Q hr hx hv hz q => ?_⟩
  unfold mAppend at hz
  split at hz
  · rename_i k y
    split at hz
    · rename_i zs e
      split at hz
      · rename_i hl
        cases hz
        cases hx with
        | ptr ha =>
          obtain ⟨o, _⟩ := hr.own k _ _ ha e
          obtain ⟨us, o1, o2⟩ := o
          cases hv with
          | cons h1 h2 =>
            cases h2
            obtain ⟨a1, a2⟩ := hr.setO (o := .lst (us ++ [_])) (d := .lst (zs ++ [y])) ha e rfl ⟨_, upd_same, o2.append (.cons h1 .nil)⟩
            exact ⟨_, us, _, rfl, rfl, o1, by rw [o2.length]; exact hl, q _ _ _ _ a1 a2 .non⟩
      · cases hz
    · cases hz
  · cases hz
theorem m_insert : MdG X "list.insert" mInsert := by
  refine ⟨_, mt_insert, fun α F H S x xs d ds z S' Q hr hx hv hz q => ?_⟩
  unfold mInsert at hz
  split at hz
  · rename_i k i y
    split at hz
    · rename_i zs e
      split at hz
      · rename_i hl
        cases hz
        cases hx with
        | ptr ha =>
          obtain ⟨o, _⟩ := hr.own k _ _ ha e
          obtain ⟨us, o1, o2⟩ := o
          cases hv with
          | cons h1 h2 =>
            cases h1
            cases h2 with
            | cons h2 h3 =>
              cases h3
              rename_i v
              obtain ⟨a1, a2⟩ := hr.setO (o := .lst (us.take i.toNat ++ [v] ++ us.drop i.toNat)) (d := .lst (zs.take i.toNat ++ [y] ++ zs.drop i.toNat)) ha e rfl ⟨_, upd_same, ((o2.take _).append (.cons h2 .nil)).append (o2.drop _)⟩
              exact ⟨_, us, i, v, rfl, rfl, o1, by rw [o2.length]; exact hl.1, hl.2.1, hl.2.2, q _ _ _ _ a1 a2 .non⟩
      · cases hz
    · cases hz
  · cases hz
/-! ### items -/
theorem atI_DV {xs : List D} {us : List V} {i : Int} {d : D} (h : DVs wd K mg F α us xs) (e : atI xs i = some d) : ∃ v, atI us i = some v ∧ DV wd K mg F α v d := by
  unfold atI at e ⊢
  rw [h.length]
  cases q : ixN xs.length i with
  | none => rw [q] at e; cases e
  | some j => rw [q] at e; exact h.get e
theorem pd_ix (ha : PD X W a ra) (hb : PD X W b rb) (hs : PlainIx b := by intro _ _; rfl) : PD X W (.Subscript a b pos) (rBin gIx ra rb) := by
  obtain ⟨ta, pa, sa⟩ := ha.ex
  obtain ⟨tb, pb, sb⟩ := hb.ex
  refine ⟨_, pe_ix ix_seq pa pb hs, sa.bin sb fun α F H S x y d e z Q hr hx hy hz q => ?_⟩
  unfold gIx at hz
  split at hz
  · rename_i xs i e1
    cases hy
    obtain ⟨l, us, rfl, a1, a2⟩ := hr.viewL hx e1
    obtain ⟨v, e3, e4⟩ := atI_DV a2 hz
    exact .inl ⟨l, us, i, v, rfl, rfl, a1, e3, fin_now hr e4 q⟩
  · rename_i xs i e1
    cases hy
    obtain ⟨l, us, rfl, a1, a2⟩ := hr.viewT hx e1
    obtain ⟨v, e3, e4⟩ := atI_DV a2 hz
    exact .inr (.inl ⟨l, us, i, v, rfl, rfl, a1, e3, fin_now hr e4 q⟩)
  · rename_i zz i e1
    split at hz
    · rename_i hl
      cases hy
      have := hr.viewS hx e1
      subst this
      cases e3 : atI zz.cps.toList i with
      | none => rw [e3] at hz; cases hz
      | some c => rw [e3] at hz; cases hz; exact .inr (.inr ⟨zz, i, c, rfl, rfl, hl, e3, fin_now hr (.str _) q⟩)
    · cases hz
  · cases hz
end
end DL
set_option Elab.async false
set_option linter.all false
set_option maxRecDepth 100000
set_option maxHeartbeats 4000000
set_option autoImplicit false
/-! Data layer, eleventh part: slices, what is walked, targets, lists that are made, dicts. -/
namespace DL
open PySem PySem.Spec PyProof.Rows L2
def rSeq (a : RE) : RA := fun δ S => (a δ S).bind fun x S1 => match x with
  | .lst ds => .ok ds S1
  | .tup ds => .ok ds S1
  | .str z => .ok (z.cps.toList.map fun c => .str ⟨#[c]⟩) S1
  | _ => .stuck
def rangeD (lo hi : Int) : List D := (List.range (hi - lo).toNat).map fun (i : Nat) => .int (lo + i)
def rRange (a : RA) : RA := fun δ S => (a δ S).bind fun xs S1 => match xs with
  | [.int j] => if -(2 ^ 62) ≤ j ∧ j < 2 ^ 62 then .ok (rangeD 0 j) S1 else .stuck
  | [.int i, .int j] => if -(2 ^ 62) ≤ i ∧ i < 2 ^ 62 ∧ -(2 ^ 62) ≤ j ∧ j < 2 ^ 62 then .ok (rangeD i j) S1 else .stuck
  | _ => .stuck
def enumD : Nat → List D → List D
  | _, [] => []
  | n, d :: r => .tux [.int n, d] :: enumD (n + 1) r
def rEnum (a : RA) : RA := fun δ S => (a δ S).bind fun xs S1 => match xs with
  | [.lst ds] => .ok (enumD 0 ds) S1
  | _ => .stuck
def zipD : List D → List D → List D
  | a :: as, b :: bs => .tux [a, b] :: zipD as bs
  | _, _ => []
/-- a, b = x, y -/
def sPar (i j : Nat) (a : RA) : RS := fun δ S => (a δ S).out δ fun xs S1 => match xs with
  | [x, y] => if i < δ.length ∧ j < δ.length then .nx ((δ.set i (some x)).set j (some y)) S1 else .stuck
  | _ => .stuck
section
variable {X : Cx} {W : WX} {a b c e tg : Expr} {es rest : List Expr} {ra rb rc : RE} {ba bb : RB} {rs : RA} {pos p : Pos} {wd : World} {K : Fg} {mg : Str → Option Value} {α β : List Addr} {F F1 H H1 : Hp} {S : Sto}
/-! ### slices -/
def SndO (wd : World) (K : Fg) (mg : Str → Option Value) (W : WX) (t : TO) (r : RO) : Prop := ∀ α F σ H δ S (Q : Option Int → Hp → Prop), Rel wd K mg α F H S → Slots wd K mg F α σ δ → wp wd K mg α F H (fun _ _ (b a : Option Int) => b = a) (r δ S) Q (fun c d H' => W c d σ H') → t σ H Q
structure POd (X : Cx) (W : WX) (e : Option Expr) (r : RO) : Prop where
  ex : ∃ t, PO X e t ∧ SndO X.w X.K X.mg W t r
theorem pod_none : POd X W none oNone := ⟨_, po_none, fun α F σ H δ S Q hr hs h => h.now hr rfl⟩
theorem pod_some (ha : PD X W a ra) : POd X W (some a) (oSome ra) := by
  obtain ⟨t, p1, s1⟩ := ha.ex
  refine ⟨_, po_some p1, fun α F σ H δ S Q hr hs h => ?_⟩
  refine s1 α F σ H δ S _ hr hs (wp.bind h fun d S1 _ x H1 β F1 r1 q1 v1 h1 => ?_)
  cases d with
  | int i => cases v1; exact ⟨i, rfl, h1.now r1 rfl⟩
  | _ => exact h1.elim
theorem cut_DVs {xs : List D} {us : List V} (lo hi : Option Int) (h : DVs wd K mg F α us xs) : DVs wd K mg F α (cutV us lo hi) (cutD xs lo hi) := by
  unfold cutV cutD
  rw [h.length]
  exact (h.drop _).take _
theorem pd_cut {lo hi : Option Expr} {p2 : Pos} {ol oh : RO} (ha : PD X W a ra) (hl : POd X W lo ol) (hh : POd X W hi oh) : PD X W (.Subscript a (.Slice lo hi none p2) pos) (rCut ra ol oh) := by
  obtain ⟨ta, pa, sa⟩ := ha.ex
  obtain ⟨tl, pl, sl⟩ := hl.ex
  obtain ⟨th, ph, sh⟩ := hh.ex
  refine ⟨_, pe_slice ((sl_list.or sl_tupP).or sl_str) pa pl ph, fun α F σ H δ S Q hr hs h => ?_⟩
  refine sa α F σ H δ S _ hr hs (wp.bind h fun d S1 _ x H1 β F1 r1 q1 v1 h1 => ?_)
  refine sl (α ++ β) F1 σ H1 δ S1 _ r1 (hs.mono q1.sub) (wp.bind h1 fun i S2 _ i' H2 γ F2 r2 q2 v2 h2 => ?_)
  have v2 : i' = i := v2
  subst v2
  refine sh (α ++ β ++ γ) F2 σ H2 δ S2 _ r2 ((hs.mono q1.sub).mono q2.sub) (wp.bind h2 fun j S3 _ j' H3 ε F3 r3 q3 v3 h3 => ?_)
  have v3 : j' = j := v3
  subst v3
  have vx := (v1.mono (β := γ) q2.sub).mono (β := ε) q3.sub
  split at h3
  · rename_i xs e1
    obtain ⟨l, us, rfl, a1, a2⟩ := r3.viewL vx e1
    refine .inl (.inl ⟨l, us, rfl, a1, fun p hp => ?_⟩)
    obtain ⟨c1, c2, c3⟩ := r3.lst (cut_DVs _ _ a2) hp
    exact h3 _ _ _ _ c1 c2 c3
  · rename_i xs e1
    obtain ⟨l, us, rfl, a1, a2⟩ := r3.viewT vx e1
    refine .inl (.inr ⟨l, us, rfl, a1, fun hw => ?_, fun _ p hp o ho => ?_⟩)
    · have ew : cutD xs i' j' = xs := by
        unfold cutD
        rw [a2.length] at hw
        rw [hw.1, hw.2, List.drop_zero, Nat.sub_zero, List.take_length]
      rw [ew] at h3
      have sx := r3.see vx
      rw [e1] at sx
      cases sx with
      | «at» h _ => exact h3.now r3 h
    · obtain ⟨c1, c2, c3⟩ := r3.tup (cut_DVs _ _ a2) hp ho
      exact h3 _ _ _ _ c1 c2 c3
  · rename_i zz e1
    split at h3
    · rename_i hl
      have := r3.viewS vx e1
      subst this
      exact .inr ⟨zz, rfl, hl, h3.now r3 (.str _)⟩
    · exact h3.elim
  · exact h3.elim
/-! ### in -/
/-! ### what is walked -/
theorem pi_or {wi wi' : TI} (h : PI X tg e wi) (h' : PI X tg e wi') : PI X tg e (fun σ H R => wi σ H R ∨ wi' σ H R) :=
  ⟨fun pins s σ H R I q => q.elim (h.run pins s σ H R I) (h'.run pins s σ H R I)⟩
theorem it_list {l : Addr} {us : List V} {ds : List D} (h : SqL K F l us) (hv : DVs wd K mg F α us ds) : ItOk wd K mg F α (Itl K l) ds where
  go := fun F' H' i a b hi => by
    obtain ⟨v, e1, _⟩ := hv.get (List.getElem?_eq_getElem hi)
    exact ⟨us, v, (a.trans b).sqL h, e1⟩
  stop := fun F' H' a b => ⟨us, (a.trans b).sqL h, by rw [hv.length]; exact Nat.le_refl _⟩
  yld := fun F' H' H2 i x d a b hd ⟨e1, e2⟩ => by
    refine .inl ⟨e1, ?_⟩
    have e3 := e2 us ((a.trans b).sqL h)
    obtain ⟨v, e4, e5⟩ := hv.get hd
    rw [e3] at e4; cases e4
    have := e5.mono (β := []) a
    rw [List.append_nil] at this; exact this
theorem it_tup {l : Addr} {us : List V} {ds : List D} (h : SqT K F l us) (hv : DVs wd K mg F α us ds) : ItOk wd K mg F α (Itt K l) ds where
  go := fun F' H' i a b hi => by
    obtain ⟨v, e1, _⟩ := hv.get (List.getElem?_eq_getElem hi)
    exact ⟨us, v, (a.trans b).sqT h, e1⟩
  stop := fun F' H' a b => ⟨us, (a.trans b).sqT h, by rw [hv.length]; exact Nat.le_refl _⟩
  yld := fun F' H' H2 i x d a b hd ⟨e1, e2⟩ => by
    refine .inl ⟨e1, ?_⟩
    have e3 := e2 us ((a.trans b).sqT h)
    obtain ⟨v, e4, e5⟩ := hv.get hd
    rw [e3] at e4; cases e4
    have := e5.mono (β := []) a
    rw [List.append_nil] at this; exact this
theorem it_str (z : Str) : ItOk wd K mg F α (Its z) (z.cps.toList.map fun c => .str ⟨#[c]⟩) where
  go := fun F' H' i a b hi => by show i < z.cps.size; simpa using hi
  stop := fun F' H' a b => by show z.cps.size ≤ _; simp
  yld := fun F' H' H2 i x d a b hd ⟨e1, c, e2, e3⟩ => by
    subst e3
    refine .inl ⟨e1, ?_⟩
    rw [List.getElem?_map, Array.getElem?_toList, e2] at hd
    cases hd
    exact .str _
theorem it_range (lo hi : Int) : ItOk wd K mg F α (Itr lo (hi - lo).toNat) (rangeD lo hi) where
  go := fun F' H' i a b h => by show i < (hi - lo).toNat; simpa [rangeD] using h
  stop := fun F' H' a b => by show _ ≤ (rangeD lo hi).length; simp [rangeD]
  yld := fun F' H' H2 i x d a b hd ⟨e1, e2⟩ => by
    subst e2
    refine .inl ⟨e1, ?_⟩
    unfold rangeD at hd
    rw [List.getElem?_map] at hd
    cases q : (List.range (hi - lo).toNat)[i]? with
    | none => rw [q] at hd; cases hd
    | some j =>
      rw [q] at hd; cases hd
      have : j = i := by
        obtain ⟨_, e⟩ := List.getElem?_eq_some_iff.mp q
        simpa using e.symm
      subst this
      exact .int _
theorem pid_seq (ha : PD X W e ra) : PId X W tg e (rSeq ra) := by
  obtain ⟨t, p1, s1⟩ := ha.ex
  refine ⟨_, pi_or (pi_or (pi_list p1) (pi_tup p1)) (pi_str p1), fun α F σ H δ S Q hr hs h => ?_⟩
  unfold rSeq at h
  cases q : ra δ S with
  | err c fs S1 =>
    rw [q] at h
    refine .inl (.inl (s1 α F σ H δ S _ hr hs ?_))
    rw [q]; exact h
  | stuck => rw [q] at h; exact h.elim
  | ok d S1 =>
    rw [q] at h
    cases d with
    | lst ds =>
      refine .inl (.inl (s1 α F σ H δ S _ hr hs ?_))
      rw [q]
      intro v H' β F' r1 st v1
      cases v1 with
      | lst h1 h2 => exact ⟨_, rfl, ⟨_, r1.sub.sqL h1⟩, h _ H' β F' r1 st (it_list h1 h2)⟩
    | tup ds =>
      refine .inl (.inr (s1 α F σ H δ S _ hr hs ?_))
      rw [q]
      intro v H' β F' r1 st v1
      cases v1 with
      | tup h1 h2 => exact ⟨_, rfl, ⟨_, r1.sub.sqT h1.1⟩, h _ H' β F' r1 st (it_tup h1.1 h2)⟩
    | str z =>
      refine .inr (s1 α F σ H δ S _ hr hs ?_)
      rw [q]
      intro v H' β F' r1 st v1
      cases v1
      exact ⟨z, rfl, h _ H' β F' r1 st (it_str z)⟩
    | _ => exact (show False from h).elim
theorem pid_range1 (hm : X.mg "range" = none) (ha : PDs X W [a] rs) (hg : Gl X "range" := by rfl) (hs : starEach [a] X.env = [(false, eval a X.env)] := by rfl) : PId X W tg (.Call (.Name "range" p) [a] [] pos) (rRange rs) := by
  obtain ⟨t, p1, s1⟩ := ha.ex
  refine ⟨_, pi_range1 hg hm p1 hs, fun α F σ H δ S Q hr hs h => ?_⟩
  refine s1 α F σ H δ S _ hr hs (wp.bind h fun ds S1 e1 xs H1 β F1 r1 q1 v1 h1 => ?_)
  have hl := ha.len _ _ _ _ e1
  match ds, hl with
  | [d], _ =>
    cases v1 with
    | cons v1 vn =>
      cases vn
      cases d with
      | int j =>
        cases v1
        dsimp only at h1
        split at h1
        · rename_i hc
          refine ⟨j, rfl, hc.1, hc.2, ?_⟩
          have := it_range (wd := X.w) (K := X.K) (mg := X.mg) (F := F1) (α := α ++ β) 0 j
          rw [Int.sub_zero] at this
          exact h1.now r1 this
        · exact h1.elim
      | _ => exact h1.elim
theorem pid_range2 (hm : X.mg "range" = none) (ha : PDs X W [a, b] rs) (hg : Gl X "range" := by rfl) (hs : starEach [a, b] X.env = [(false, eval a X.env), (false, eval b X.env)] := by rfl) (hs2 : starEach [b] X.env = [(false, eval b X.env)] := by rfl) : PId X W tg (.Call (.Name "range" p) [a, b] [] pos) (rRange rs) := by
  obtain ⟨t, p1, s1⟩ := ha.ex
  refine ⟨_, pi_range2 hg hm p1 hs hs2, fun α F σ H δ S Q hr hs h => ?_⟩
  refine s1 α F σ H δ S _ hr hs (wp.bind h fun ds S1 e1 xs H1 β F1 r1 q1 v1 h1 => ?_)
  have hl := ha.len _ _ _ _ e1
  match ds, hl with
  | [d, d'], _ =>
    cases v1 with
    | cons v1 vn =>
      cases vn with
      | cons v2 vn =>
        cases vn
        cases d with
        | int i =>
          cases d' with
          | int j =>
            cases v1; cases v2
            dsimp only at h1
            split at h1
            · rename_i hc
              exact ⟨i, j, rfl, hc, h1.now r1 (it_range i j)⟩
            · exact h1.elim
          | _ => exact h1.elim
        | _ => exact h1.elim
theorem enumD_get : ∀ {ds : List D} {n i : Nat} {d : D}, (enumD n ds)[i]? = some d → ∃ e, ds[i]? = some e ∧ d = .tux [.int ((n + i : Nat) : Int), e]
  | [], _, _, _, h => by simp [enumD] at h
  | e :: r, n, 0, d, h => by simp [enumD] at h; exact ⟨e, rfl, by rw [← h]; rfl⟩
  | e :: r, n, i + 1, d, h => by
    obtain ⟨e', h1, h2⟩ := enumD_get (ds := r) (n := n + 1) (i := i) (d := d) (by simpa [enumD] using h)
    exact ⟨e', by simpa using h1, by rw [h2]; congr 4; omega⟩
theorem enumD_len : ∀ (n : Nat) (ds : List D), (enumD n ds).length = ds.length
  | _, [] => rfl
  | n, _ :: r => by rw [enumD, List.length_cons, List.length_cons, enumD_len]
theorem it_enum {l : Addr} {us : List V} {ds : List D} (h : SqL K F l us) (hv : DVs wd K mg F α us ds) : ItOk wd K mg F α (Ite K l) (enumD 0 ds) where
  go := fun F' H' i a b hi => by
    rw [enumD_len] at hi
    obtain ⟨v, e1, _⟩ := hv.get (List.getElem?_eq_getElem hi)
    exact ⟨us, v, (a.trans b).sqL h, e1⟩
  stop := fun F' H' a b => ⟨us, (a.trans b).sqL h, by rw [hv.length, enumD_len]; exact Nat.le_refl _⟩
  yld := fun F' H' H2 i x d a b hd ⟨T, y, e1, e2, e3, e4⟩ => by
    have e5 := e4 us ((a.trans b).sqL h)
    obtain ⟨e, e6, rfl⟩ := enumD_get hd
    obtain ⟨v, e7, e8⟩ := hv.get e6
    rw [e5] at e7; cases e7
    subst e1
    have nF : F' T = none := by
      cases z : F' T with
      | none => rfl
      | some u => rw [b _ _ z] at e2; cases e2
    refine .inr ⟨T, _, e2, e3, .tux (SqT.of upd_same) (.cons ?_ (.cons ?_ .nil))⟩
    · rw [Nat.zero_add]; exact .int _
    · have := e8.mono (β := []) (a.trans (Sub.new (o := .tup [.int (i : Nat), y]) nF))
      rw [List.append_nil] at this; exact this
theorem pid_enum {elts : List Expr} {kk : Nat} {tpos : Pos} (hm : X.mg "enumerate" = none) (ha : PDs X W [e] rs) (hg : Gl X "enumerate" := by rfl) (hs : starEach [e] X.env = [(false, eval e X.env)] := by rfl) : PId X W (.Tuple elts kk tpos) (.Call (.Name "enumerate" p) [e] [] pos) (rEnum rs) := by
  obtain ⟨t, p1, s1⟩ := ha.ex
  refine ⟨_, pi_enum hg hm p1 hs, fun α F σ H δ S Q hr hs h => ?_⟩
  refine s1 α F σ H δ S _ hr hs (wp.bind h fun ds S1 e1 xs H1 β F1 r1 q1 v1 h1 => ?_)
  have hl := ha.len _ _ _ _ e1
  match ds, hl with
  | [d], _ =>
    cases v1 with
    | cons v1 vn =>
      cases vn
      cases d with
      | lst ys =>
        cases v1 with
        | lst a1 a2 => exact ⟨_, _, rfl, r1.sub.sqL a1, h1.now r1 (it_enum a1 a2)⟩
      | _ => exact h1.elim
theorem zipD_get : ∀ {xs ys : List D} {i : Nat} {d : D}, (zipD xs ys)[i]? = some d → ∃ x y, xs[i]? = some x ∧ ys[i]? = some y ∧ d = .tux [x, y]
  | a :: as, b :: bs, 0, d, h => by simp [zipD] at h; exact ⟨a, b, rfl, rfl, h.symm⟩
  | a :: as, b :: bs, i + 1, d, h => by
    obtain ⟨x, y, h1, h2, h3⟩ := zipD_get (xs := as) (ys := bs) (i := i) (d := d) (by simpa [zipD] using h)
    exact ⟨x, y, by simpa using h1, by simpa using h2, h3⟩
  | [], _, _, _, h => by simp [zipD] at h
  | _ :: _, [], _, _, h => by simp [zipD] at h
theorem zipD_len : ∀ xs ys : List D, (zipD xs ys).length = min xs.length ys.length
  | a :: as, b :: bs => by rw [zipD, List.length_cons, zipD_len, List.length_cons, List.length_cons]; omega
  | [], _ => by simp [zipD]
  | _ :: _, [] => by simp [zipD]
theorem it_zip {l m : Addr} {us ws : List V} {ds es : List D} (h : SqL K F l us) (hv : DVs wd K mg F α us ds) (g : SqL K F m ws) (gv : DVs wd K mg F α ws es) : ItOk wd K mg F α (Itz K l m) (zipD ds es) where
  go := fun F' H' i a b hi => by
    rw [zipD_len] at hi
    obtain ⟨v, e1, _⟩ := hv.get (List.getElem?_eq_getElem (by omega : i < ds.length))
    obtain ⟨u, e2, _⟩ := gv.get (List.getElem?_eq_getElem (by omega : i < es.length))
    exact ⟨us, ws, v, u, (a.trans b).sqL h, (a.trans b).sqL g, e1, e2⟩
  stop := fun F' H' a b => ⟨us, ws, (a.trans b).sqL h, (a.trans b).sqL g, by rw [hv.length, gv.length, zipD_len]; omega⟩
  yld := fun F' H' H2 i x d a b hd ⟨T, y, y2, e1, e2, e3, e4, e5⟩ => by
    have f1 := e4 us ((a.trans b).sqL h)
    have f2 := e5 ws ((a.trans b).sqL g)
    obtain ⟨p, q, e6, e7, rfl⟩ := zipD_get hd
    obtain ⟨v, e8, e9⟩ := hv.get e6
    rw [f1] at e8; cases e8
    obtain ⟨v2, e10, e11⟩ := gv.get e7
    rw [f2] at e10; cases e10
    subst e1
    have nF : F' T = none := by
      cases z : F' T with
      | none => rfl
      | some u => rw [b _ _ z] at e2; cases e2
    have sb := a.trans (Sub.new (o := .tup [y, y2]) nF)
    refine .inr ⟨T, _, e2, e3, .tux (SqT.of upd_same) (.cons ?_ (.cons ?_ .nil))⟩
    · have := e9.mono (β := []) sb
      rw [List.append_nil] at this; exact this
    · have := e11.mono (β := []) sb
      rw [List.append_nil] at this; exact this
/-! ### targets from a list, two names at once -/
theorem psd_par {i j : Nat} {x y : Str} {px py pt : Pos} {kt k2 : Nat} {pt2 : Pos} (hc : X.calm = true) (hN : X.N.Nodup) (ha : PDs X W [a, b] rs) (hij : i ≠ j := by decide) (hi : X.N[i]? = some x := by rfl) (hj : X.N[j]? = some y := by rfl) (hx : X.env.scope.names.lookup x = some .local := by rfl) (hy : X.env.scope.names.lookup y = some .local := by rfl)
    (hw : swappedStores [.Tuple [.Name x px, .Name y py] kt pt] (.Tuple [a, b] k2 pt2) X.env = pure (some [x, y]) := by rfl) : PSd X W (.Assign [.Tuple [.Name x px, .Name y py] kt pt] (.Tuple [a, b] k2 pt2) pos) (sPar i j rs) := by
  obtain ⟨t, p1, s1⟩ := ha.ex
  refine ⟨_, ps_par hc hN hi hj hij hx hy p1 hw, fun α F σ H δ S E hr hs h => ?_⟩
  refine s1 α F σ H δ S _ hr hs (wpS.out h hs fun ds S1 e1 xs H1 β F1 r1 q1 v1 h1 => ?_)
  have hl := ha.len _ _ _ _ e1
  match ds, hl with
  | [d, d'], _ =>
    cases v1 with
    | cons v1 vn =>
      cases vn with
      | cons v2 vn =>
        cases vn
        dsimp only at h1
        split at h1
        · exact ⟨_, _, rfl, h1.nx r1 (((hs.mono q1.sub).set v1).set v2)⟩
        · exact h1.elim
end
end DL
set_option Elab.async false
set_option linter.all false
set_option maxRecDepth 100000
set_option maxHeartbeats 4000000
set_option autoImplicit false
/-! Data layer, twelfth part: lists that are made, dicts. -/
namespace DL
open PySem PySem.Spec PyProof.Rows L2
def keyEq : D → D → Bool
  | .int i, .int j => i == j
  | .str x, .str y => decide (x = y)
  | _, _ => false
def lookD : List (D × D) → D → Option D
  | [], _ => none
  | (k, v) :: r, q => if keyEq k q then some v else lookD r q
def replD : List (D × D) → D → D → List (D × D)
  | [], _, _ => []
  | (k, v) :: r, q, y => if keyEq k q then (k, y) :: replD r q y else (k, v) :: replD r q y
def putD (kvs : List (D × D)) (q y : D) : List (D × D) := if (lookD kvs q).isSome then replD kvs q y else kvs ++ [(q, y)]
def mergeD (kvs more : List (D × D)) : List (D × D) := more.foldl (fun acc kv => putD acc kv.1 kv.2) kvs
def isKey : D → Bool
  | .int _ => true
  | .str _ => true
  | _ => false
/-- pairs of a display, from the left -/
def rPairs : List (RE × RE) → Sl → Sto → Res (List (D × D))
  | [], _, S => .ok [] S
  | (k, v) :: r, δ, S => (k δ S).bind fun x S1 => (v δ S1).bind fun y S2 => (rPairs r δ S2).bind fun ps S3 => .ok ((x, y) :: ps) S3
def rDisp (ps : List (RE × RE)) : RE := fun δ S => (rPairs ps δ S).bind fun kvs S1 => if kvs.all (fun p => isKey p.1) && decide (kvs.length ≤ 15) then .ok (.dct (mergeD [] kvs)) S1 else .stuck
/-- xs[i] = v -/
def sSetL (d k v : RE) : RS := fun δ S => (v δ S).out δ fun z S1 => (d δ S1).out δ fun x S2 => (k δ S2).out δ fun y S3 => match x, y with
  | .ptr n, .int i => (match S3[n]? with
    | some (.lst xs) => (match ixN xs.length i with
      | some j => .nx δ (S3.set n (.lst (xs.set j z)))
      | none => .stuck)
    | _ => .stuck)
  | _, _ => .stuck
def gList : Sto → List D → Option D := fun S ds => match ds with
  | [d] => (match deref S d with
    | .lst xs => some (.lst xs)
    | .tup xs => some (.lst xs)
    | .str z => if z.cps.size ≤ sizeLine then some (.lst (z.cps.toList.map fun c => .str ⟨#[c]⟩)) else none
    | _ => none)
  | _ => none
def gTuple : Sto → List D → Option D := fun S ds => match ds with
  | [d] => (match deref S d with
    | .lst xs => some (.tup xs)
    | .tup xs => some (.tup xs)
    | _ => none)
  | _ => none
section
variable {X : Cx} {W : WX} {a b c e tg : Expr} {es rest : List Expr} {ra rb rc : RE} {ba bb : RB} {rs : RA} {pos p : Pos} {wd : World} {K : Fg} {mg : Str → Option Value} {α β : List Addr} {F F1 H H1 : Hp} {S : Sto}
/-! ### made by operators, calls, methods -/
theorem wpF.now {d : D} {Q : VK} {W : XK} {ad : Addr} {o : HO} (h : wpF wd K mg α F H (.ok d S) Q W) (hr : Rel wd K mg α F H S) (hp : H ad = none) (ho : Own wd K mg F α (upd H ad o) ad d) (hd : d.open = true) : Q (.ref ad) (upd H ad o) := h.lay hr hp ho hd
/-- by a list that is laid at a new place -/
def Lays (H : Hp) (xs : List V) (Q : VK) : Prop := ∀ p, H p = none → Q (.ref p) (upd H p (.lst xs))
theorem pf_bin {op : Operator} {g : Sto → D → D → Option D} {r : R2} (ho : OpR X (binaryOp op) r) (hg : ∀ α F H S x y d e z Q, Rel X.w X.K X.mg α F H S → DV X.w X.K X.mg F α x d → DV X.w X.K X.mg F α y e → g S d e = some z → ∃ ds xs, z = .lst ds ∧ DVs X.w X.K X.mg F α xs ds ∧ (Lays H xs Q → r x y H Q)) (ha : PD X W a ra) (hb : PD X W b rb) :
    PF X W (.BinOp a op b pos) (rBin g ra rb) := by
  obtain ⟨ta, pa, sa⟩ := ha.ex
  obtain ⟨tb, pb, sb⟩ := hb.ex
  refine ⟨_, pe_op ho pa pb, fun α F σ H δ S Q hr hs h => ?_⟩
  refine sa α F σ H δ S _ hr hs (wpF.bind h fun d S1 _ x H1 β F1 r1 s1 v1 h1 => ?_)
  refine sb (α ++ β) F1 σ H1 δ S1 _ r1 (hs.mono s1.sub) (wpF.bind h1 fun e S2 _ y H2 γ F2 r2 s2 v2 h2 => ?_)
  cases eg : g S2 d e with
  | none => rw [eg] at h2; exact h2.elim
  | some z =>
    rw [eg] at h2
    obtain ⟨ds, xs, rfl, e1, e2⟩ := hg _ F2 H2 S2 x y d e z Q r2 (v1.mono s2.sub) v2 eg
    exact e2 fun p hp => wpF.lay h2 r2 hp ⟨xs, upd_same, e1⟩ rfl
theorem op_catR : OpR X (binaryOp .Add) (fun x y H Q => ∃ l m xs zs, x = .ref l ∧ y = .ref m ∧ SqL X.K H l xs ∧ SqL X.K H m zs ∧ xs.length + zs.length ≤ sizeLine ∧ Lays H (xs ++ zs) Q) := by
  intro pins s σ H x y v u Q I rx ry h
  obtain ⟨l, m, xs, zs, rfl, rfl, h1, h2, hz, q⟩ := h
  cases rx; cases ry
  obtain ⟨its, r, ⟨o1, n1, g1, c1, _, w1⟩, _⟩ := I.list h1
  obtain ⟨its2, r2, ⟨o2, n2, g2, c2, _, w2⟩, _⟩ := I.list h2
  obtain ⟨k1, dd1, dt1, sl1⟩ := o1
  obtain ⟨k2, dd2, dt2, sl2⟩ := o2
  simp only at c1 c2 w1 w2
  subst c1 c2 w1 w2
  have l1 := r.length
  have l2 := r2.length
  have sz : its.toArray.size + its2.toArray.size ≤ sizeLine := by rw [List.size_toArray, List.size_toArray]; omega
  refine concat_meets ⟨_, g1, rfl⟩ ⟨_, g2, rfl⟩ noFill_list_add seq_list_add PySem.F.slot_list_add PySem.F.entry_list_add (PySem.F.args_list_add_2 _ _) (list_addW l m its.toArray its2.toArray n1 n2 dd1 dd2 sl1 sl2 sz) ⟨g1, g2, ?_⟩
  rw [show its.toArray ++ its2.toArray = (its ++ its2).toArray by simp]
  exact ⟨.ref s.heap.objs.size, _, I.lnew (t' := s.toks) (r.append r2) (by simp; omega), rfl, q _ I.fresh⟩
theorem pf_cat (ha : PD X W a ra) (hb : PD X W b rb) : PF X W (.BinOp a .Add b pos) (rBin gCat ra rb) := pf_bin op_catR (fun α F H S x y d e z Q hr hx hy hz => by
  unfold gCat at hz
  split at hz
  · rename_i xs ys e1 e2
    split at hz
    · rename_i hl
      cases hz
      obtain ⟨l, us, rfl, a1, a2⟩ := hr.viewL hx e1
      obtain ⟨m, ws, rfl, b1, b2⟩ := hr.viewL hy e2
      exact ⟨_, us ++ ws, rfl, a2.append b2, fun q => ⟨l, m, us, ws, rfl, rfl, a1, b1, by rw [a2.length, b2.length]; exact hl, q⟩⟩
    · cases hz
  · cases hz) ha hb
theorem DVs.rep {us : List V} {xs : List D} (h : DVs wd K mg F α us xs) : ∀ n : Nat, DVs wd K mg F α (List.replicate n us).flatten (List.replicate n xs).flatten
  | 0 => .nil
  | n + 1 => by
    rw [List.replicate_succ, List.replicate_succ, List.flatten_cons, List.flatten_cons]
    exact h.append (DVs.rep h n)
/-- a list, laid new, times a number -/
def gRepF : Sto → D → D → Option D := fun _ d e => match d, e with
  | .lst xs, .int k => if -(2 ^ 63) ≤ k ∧ k < 2 ^ 63 ∧ xs.length * k.toNat ≤ sizeLine then some (.lst (List.replicate k.toNat xs).flatten) else none
  | _, _ => none
theorem pf_rep (ha : PF X W a ra) (hb : PD X W b rb) : PF X W (.BinOp a .Mult b pos) (rBin gRepF ra rb) := by
  obtain ⟨ta, pa, sa⟩ := ha.ex
  obtain ⟨tb, pb, sb⟩ := hb.ex
  refine ⟨_, pe_op op_rep pa pb, fun α F σ H δ S Q hr hs h => ?_⟩
  refine sa α F σ H δ S _ hr hs ?_
  unfold rBin at h
  cases q : ra δ S with
  | err c fs S1 => rw [q] at h; exact h
  | stuck => rw [q] at h; exact h
  | ok d S1 =>
    rw [q] at h
    intro ad H1 β F1 r1 s1 hp hα hf ho hd
    have h1 : wpF X.w X.K X.mg (α ++ β) F1 H1 ((rb δ S1).bind fun y S2 => .lift (gRepF S2 d y) S2) Q _ := wpF.step s1 h
    refine sb (α ++ β) F1 σ H1 δ S1 _ r1 (hs.mono s1.sub) (wpF.bind h1 fun e S2 _ y H2 γ F2 r2 s2 v2 h2 => ?_)
    cases eg : gRepF S2 d e with
    | none => rw [eg] at h2; exact h2.elim
    | some z =>
      rw [eg] at h2
      cases d with
      | lst xs =>
        cases e with
        | int k =>
          unfold gRepF at eg
          dsimp only at eg
          split at eg
          · rename_i hl
            cases eg
            cases v2
            obtain ⟨us, o1, o2⟩ := ho
            refine ⟨ad, k, us, rfl, rfl, s2.frame ad _ hα o1, hl.1, hl.2.1, by rw [o2.length]; exact hl.2.2, fun p' hp' => ?_⟩
            exact wpF.lay h2 r2 hp' ⟨_, upd_same, (o2.mono s2.sub).rep _⟩ rfl
          · cases eg
        | _ => cases eg
      | _ => cases eg
/-- by a call of a built-in class, by a method -/
theorem pf_callT {x : Str} {T : String} {g : Sto → List D → Option D} {r : List V → Hp → VK → Prop} (hc : CallR X (.type T) r) (hgk : ∀ α F H S xs ds z Q, Rel X.w X.K X.mg α F H S → DVs X.w X.K X.mg F α xs ds → g S ds = some z → ∃ es us, z = .lst es ∧ DVs X.w X.K X.mg F α us es ∧ (Lays H us Q → r xs H Q))
    (hm : X.mg x = none) (ha : PDs X W (e :: es) rs) (hg : Gl X x := by rfl) (hv : bootBuiltins x = some (.type T) := by decide +kernel) (hn : x ≠ "__name__" := by decide) (hdb : (x == ("__debug__" : Str)) = false := by decide)
    (he : starEach (e :: es) X.env = (false, eval e X.env) :: starEach es X.env := by rfl) (hpl : (backTo pos (starEach es X.env)).any (·.1) = false := by rfl) : PF X W (.Call (.Name x p) (e :: es) [] pos) (rAs g rs) := by
  obtain ⟨t, pt, st⟩ := ha.ex
  refine ⟨_, pe_callTy hc hg hm hv pt hn hdb he hpl, fun α F σ H δ S Q hr hs h => ?_⟩
  refine st α F σ H δ S _ hr hs (wpF.bind h fun ds S1 _ xs H1 β F1 r1 q1 v1 h1 => ?_)
  cases eg : g S1 ds with
  | none => rw [eg] at h1; exact h1.elim
  | some z =>
    rw [eg] at h1
    obtain ⟨es', us, rfl, e1, e2⟩ := hgk _ F1 H1 S1 xs ds z Q r1 v1 eg
    exact e2 fun p hp => wpF.lay h1 r1 hp ⟨us, upd_same, e1⟩ rfl
theorem call_listS (hc : X.calm = true) : CallR X (.type "list") (fun xs H Q => ∃ z, xs = [.str z] ∧ z.cps.size ≤ sizeLine ∧ Lays H (z.cps.toList.map fun c => .str ⟨#[c]⟩) Q) := by
  intro pins s σ H xs us Q I rv h
  obtain ⟨z, rfl, hz, q⟩ := h
  obtain ⟨u, rfl, ru⟩ := vals1 rv
  obtain ⟨t, rfl⟩ := ru
  refine call_list_str (I.ok.hd hc) z t (fun h' tk acc c k e it => ?_) hz
  have hv : Vals (z.cps.toList.map fun c => V.str ⟨#[c]⟩) acc.toList := by
    refine vals_of_at (by simp [it.1]) fun j x u h1 h2 => ?_
    rw [Array.getElem?_toList] at h2
    obtain ⟨c, t', e1, e2⟩ := it.2 j u h2
    rw [List.getElem?_map, Array.getElem?_toList, e1] at h1
    cases h1
    exact ⟨t', e2⟩
  have nw : ObjOk X.prog X.w (upd H s.heap.objs.size (.lst (z.cps.toList.map fun c => V.str ⟨#[c]⟩))) h' s.heap.objs.size (.lst (z.cps.toList.map fun c => V.str ⟨#[c]⟩)) := ⟨by simpa using hz, acc.toList, c, hv, by simpa using e⟩
  exact ⟨.ref s.heap.objs.size, _, I.laid (t' := tk) k (Nat.le_refl _) nw, rfl, q _ I.fresh⟩
theorem pf_list (hc : X.calm = true) (hm : X.mg "list" = none) (ha : PDs X W (e :: es) rs) (hg : Gl X "list" := by rfl) (he : starEach (e :: es) X.env = (false, eval e X.env) :: starEach es X.env := by rfl) (hpl : (backTo pos (starEach es X.env)).any (·.1) = false := by rfl) :
    PF X W (.Call (.Name "list" p) (e :: es) [] pos) (rAs gList rs) := pf_callT (call_list_of.or (call_listS hc)) (fun α F H S xs ds z Q hr hv hz => by
  unfold gList at hz
  split at hz
  · cases hv with
    | cons h1 h2 =>
      cases h2
      split at hz
      · rename_i ys e1
        cases hz
        obtain ⟨l, us, rfl, a1, a2⟩ := hr.viewL h1 e1
        exact ⟨_, us, rfl, a2, fun q => .inl ⟨l, us, rfl, .inl a1, q⟩⟩
      · rename_i ys e1
        cases hz
        obtain ⟨l, us, rfl, a1, a2⟩ := hr.viewT h1 e1
        exact ⟨_, us, rfl, a2, fun q => .inl ⟨l, us, rfl, .inr a1, q⟩⟩
      · rename_i zz e1
        split at hz
        · rename_i hl
          cases hz
          have := hr.viewS h1 e1
          subst this
          refine ⟨_, zz.cps.toList.map fun c => .str ⟨#[c]⟩, rfl, ?_, fun q => .inr ⟨zz, rfl, hl, q⟩⟩
          have := DVs.of_strs (wd := X.w) (K := X.K) (mg := X.mg) (F := F) (α := α) (zz.cps.toList.map fun c => (⟨#[c]⟩ : Str))
          rw [List.map_map, List.map_map] at this
          exact this
        · cases hz
      · cases hz
  · cases hz) hm ha hg (by decide +kernel) (by decide) (by decide) he hpl
theorem b_tuple : BiG X (.type "tuple") gTuple := by
  refine ⟨_, call_tuple_ofP, fun α F H S xs ds z Q hr hv hz q => ?_⟩
  unfold gTuple at hz
  split at hz
  · cases hv with
    | cons h1 h2 =>
      cases h2
      split at hz
      · rename_i ys e1
        cases hz
        obtain ⟨l, us, rfl, a1, a2⟩ := hr.viewL h1 e1
        refine ⟨l, us, rfl, .inl ⟨a1, fun p hp o ho => ?_⟩⟩
        obtain ⟨c1, c2, c3⟩ := hr.tup a2 hp ho
        exact q _ _ _ _ c1 c2 c3
      · rename_i ys e1
        cases hz
        obtain ⟨l, us, rfl, a1, a2⟩ := hr.viewT h1 e1
        have sx := hr.see h1
        rw [e1] at sx
        cases sx with
        | «at» h _ => exact ⟨l, us, rfl, .inr ⟨a1, fin_now hr h q⟩⟩
      · cases hz
  · cases hz
end
end DL
set_option Elab.async false
set_option linter.all false
set_option maxRecDepth 100000
set_option maxHeartbeats 4000000
set_option autoImplicit false
/-! Data layer, thirteenth part: dicts by numbers and texts; an item stored. -/
namespace DL
open PySem PySem.Spec PyProof.Rows L2
def kD : Key → D
  | .inl i => .int i
  | .inr x => .str x
theorem isKey_kD {d : D} (h : isKey d = true) : ∃ k, d = kD k := by
  cases d with
  | int i => exact ⟨.inl i, rfl⟩
  | str x => exact ⟨.inr x, rfl⟩
  | _ => cases h
theorem keyEq_kD (a b : Key) : keyEq (kD a) (kD b) = decide (a = b) := by
  cases a with
  | inl i => cases b with
    | inl j => show (i == j) = _; rw [key_ll]
    | inr y => show false = _; rw [key_lr]
  | inr x => cases b with
    | inl j => show false = _; rw [key_rl]
    | inr y => show decide (x = y) = _; rw [key_rr]
section
variable {X : Cx} {W : WX} {a b c e tg : Expr} {es rest : List Expr} {ra rb rc : RE} {ba bb : RB} {rs : RA} {pos p : Pos} {wd : World} {K : Fg} {mg : Str → Option Value} {α β : List Addr} {F F1 H H1 : Hp} {S : Sto}
theorem kD_DV {k : Key} {v : V} (h : DV wd K mg F α v (kD k)) : v = kV k := by cases k <;> cases h <;> rfl
/-- a dict's pairs -/
inductive KVs (wd : World) (K : Fg) (mg : Str → Option Value) (F : Hp) (α : List Addr) : List (Key × V) → List (D × D) → Prop
  | nil : KVs wd K mg F α [] []
  | cons {k : Key} {v : V} {d : D} {ws : List (Key × V)} {kvs : List (D × D)} : DV wd K mg F α v d → KVs wd K mg F α ws kvs → KVs wd K mg F α ((k, v) :: ws) ((kD k, d) :: kvs)
theorem KVs.of : ∀ {ws : List (Key × V)} {kvs : List (D × D)}, DKs (ws.map (·.1)) (kvs.map (·.1)) → DVs wd K mg F α (ws.map (·.2)) (kvs.map (·.2)) → KVs wd K mg F α ws kvs
  | [], [], _, _ => .nil
  | [], _ :: _, h, _ => by have := h.length; simp at this
  | _ :: _, [], h, _ => by have := h.length; simp at this
  | (k, v) :: ws, (q, d) :: kvs, h, g => by
    have h' : DKs (k :: ws.map (·.1)) (q :: kvs.map (·.1)) := h
    have g' : DVs wd K mg F α (v :: ws.map (·.2)) (d :: kvs.map (·.2)) := g
    cases g' with
    | cons g1 g2 =>
      cases h' with
      | int h2 => exact .cons (k := .inl _) g1 (KVs.of h2 g2)
      | str h2 => exact .cons (k := .inr _) g1 (KVs.of h2 g2)
theorem KVs.keys {ws : List (Key × V)} {kvs : List (D × D)} (h : KVs wd K mg F α ws kvs) : DKs (ws.map (·.1)) (kvs.map (·.1)) := by
  induction h with
  | nil => exact .nil
  | @cons k v d ws kvs _ _ ih => cases k with
    | inl i => exact .int ih
    | inr x => exact .str ih
theorem KVs.vals {ws : List (Key × V)} {kvs : List (D × D)} (h : KVs wd K mg F α ws kvs) : DVs wd K mg F α (ws.map (·.2)) (kvs.map (·.2)) := by
  induction h with
  | nil => exact .nil
  | cons h _ ih => exact .cons h ih
theorem KVs.length {ws : List (Key × V)} {kvs : List (D × D)} (h : KVs wd K mg F α ws kvs) : ws.length = kvs.length := by
  have := h.vals.length
  simpa using this
theorem KVs.look {ws : List (Key × V)} {kvs : List (D × D)} (h : KVs wd K mg F α ws kvs) (k : Key) : (∀ d, lookD kvs (kD k) = some d → ∃ v, valV ws k = some v ∧ DV wd K mg F α v d) ∧ (lookD kvs (kD k) = none → valV ws k = none) := by
  induction h with
  | nil => exact ⟨(fun d e => by cases e), fun _ => rfl⟩
  | @cons j v d ws kvs h _ ih =>
    unfold lookD
    rw [keyEq_kD]
    by_cases q : j = k
    · subst q
      rw [decide_eq_true rfl, if_pos rfl, valV_pos (p := (j, v)) rfl]
      exact ⟨(fun e z => by cases z; exact ⟨v, rfl, h⟩), fun z => by cases z⟩
    · rw [decide_eq_false q, if_neg (by decide), valV_neg (p := (j, v)) q]
      exact ih
theorem KVs.isSome {ws : List (Key × V)} {kvs : List (D × D)} (h : KVs wd K mg F α ws kvs) (k : Key) : (lookD kvs (kD k)).isSome = (valV ws k).isSome := by
  obtain ⟨h1, h2⟩ := h.look k
  cases e : lookD kvs (kD k) with
  | none => rw [h2 e]; rfl
  | some d => obtain ⟨v, e1, _⟩ := h1 d e; rw [e1]; rfl
theorem KVs.append {ws ws' : List (Key × V)} {kvs kvs' : List (D × D)} (h : KVs wd K mg F α ws kvs) (g : KVs wd K mg F α ws' kvs') : KVs wd K mg F α (ws ++ ws') (kvs ++ kvs') := by
  induction h with
  | nil => exact g
  | cons h _ ih => exact .cons h ih
theorem KVs.put {ws : List (Key × V)} {kvs : List (D × D)} (h : KVs wd K mg F α ws kvs) (k : Key) {v : V} {d : D} (hv : DV wd K mg F α v d) : KVs wd K mg F α (putK ws k v) (putD kvs (kD k) d) := by
  unfold putK putD
  rw [h.isSome k, valV_any]
  by_cases q : (valV ws k).isSome = true
  · rw [if_pos q, if_pos q]
    clear q
    induction h with
    | nil => exact .nil
    | @cons j u e ws kvs h1 _ ih =>
      rw [List.map_cons]
      unfold replD
      rw [keyEq_kD]
      by_cases z : j = k
      · subst z
        rw [decide_eq_true rfl, if_pos rfl, if_pos rfl]
        exact .cons hv ih
      · rw [if_neg (show ¬ (j, u).1 = k from z), decide_eq_false z, if_neg (show ¬ false = true by decide)]
        exact .cons h1 ih
  · rw [if_neg q, if_neg q]
    exact h.append (.cons hv .nil)
theorem KVs.merge {more : List (Key × V)} {mk : List (D × D)} (g : KVs wd K mg F α more mk) : ∀ {ws : List (Key × V)} {kvs : List (D × D)}, KVs wd K mg F α ws kvs → KVs wd K mg F α (mergeK ws more) (mergeD kvs mk) := by
  induction g with
  | nil => exact fun h => h
  | cons h1 _ ih => exact fun h => ih (h.put _ h1)
theorem Own.dctK {ad : Addr} {kvs : List (D × D)} : Own wd K mg F α H ad (.dct kvs) ↔ ∃ ws, H ad = some (.dK ws) ∧ KVs wd K mg F α ws kvs :=
  ⟨fun ⟨ws, h1, h2, h3⟩ => ⟨ws, h1, .of h2 h3⟩, fun ⟨ws, h1, h2⟩ => ⟨ws, h1, h2.keys, h2.vals⟩⟩
theorem psd_setL {o i value : Expr} {pos' : Pos} {ro ri rv : RE} (ho : PD X W o ro) (hi : PD X W i ri) (hv : PD X W value rv) (ha : ∀ v, assign (.Subscript o i pos') X.env v = (do let ov ← holding [v] (eval o X.env); let iv ← holding [v, ov] (eval i X.env); standAt pos'; holding [v, ov, iv] (setItem ov iv v); release [v, ov, iv] []) := by intro _; rfl)
    (hsw : swapsWithSole [.Subscript o i pos'] value pos.line X.env = pure false := by rfl) (hw : swappedStores [.Subscript o i pos'] value X.env = pure none := by rfl) (h1 : (assignEach [.Subscript o i pos'] X.env).map (·.2) = [assign (.Subscript o i pos') X.env] := by rfl) : PSd X W (.Assign [.Subscript o i pos'] value pos) (sSetL ro ri rv) := by
  obtain ⟨to, po, so⟩ := ho.ex
  obtain ⟨ti, pi, si⟩ := hi.ex
  obtain ⟨tv, pv', sv⟩ := hv.ex
  refine ⟨_, ps_asg pv' (pg_sub po pi set_list ha) hsw hw h1, fun α F σ H δ S E hr hs h => ?_⟩
  refine sv α F σ H δ S _ hr hs (wpS.out h hs fun z S1 _ v H1 β F1 r1 q1 v1 h1 => ?_)
  have hs1 := hs.mono (β := β) q1.sub
  refine so (α ++ β) F1 σ H1 δ S1 _ r1 hs1 (wpS.out h1 hs1 fun x S2 _ xv H2 γ F2 r2 q2 v2 h2 => ?_)
  have hs2 := hs1.mono (β := γ) q2.sub
  refine si (α ++ β ++ γ) F2 σ H2 δ S2 _ r2 hs2 (wpS.out h2 hs2 fun y S3 _ yv H3 ε F3 r3 q3 v3 h3 => ?_)
  have hs3 := hs2.mono (β := ε) q3.sub
  cases x with
  | ptr n =>
    cases y with
    | int i =>
      dsimp only at h3
      split at h3
      · rename_i xs e1
        split at h3
        · rename_i j e2
          have v2' := v2.mono (β := ε) q3.sub
          cases v2' with
          | ptr ea =>
            obtain ⟨o1, _⟩ := r3.own _ _ _ ea e1
            obtain ⟨us, o2, o3⟩ := o1
            cases v3
            have vz := (v1.mono (β := γ) q2.sub).mono (β := ε) q3.sub
            obtain ⟨a1, a2⟩ := r3.setO (o := .lst (us.set j v)) (d := .lst (xs.set j z)) ea e1 rfl ⟨_, upd_same, o3.set vz j⟩
            refine ⟨_, us, i, j, rfl, rfl, o2, by rw [o3.length]; exact e2, ?_⟩
            exact h3 _ _ _ _ a1 a2 (hs3.mono a2.sub)
        · exact h3.elim
      · exact h3.elim
    | _ => exact h3.elim
  | _ => exact h3.elim
/-! ### displays -/
structure PPd (X : Cx) (W : WX) (pos : Pos) (ks : List (Option Expr)) (vs : List Expr) (ps : List (RE × RE)) : Prop where
  ex : ∃ trs, PPs X pos ks vs trs ∧ ∀ α F σ H δ S (Q : List (V × V) → Hp → Prop), Rel X.w X.K X.mg α F H S → Slots X.w X.K X.mg F α σ δ →
    wp X.w X.K X.mg α F H (fun F α (b : List (V × V)) (a : List (D × D)) => DVs X.w X.K X.mg F α (b.map (·.1)) (a.map (·.1)) ∧ DVs X.w X.K X.mg F α (b.map (·.2)) (a.map (·.2))) (rPairs ps δ S) Q (fun c d H' => W c d σ H') → tPairs trs σ H Q
theorem ppd_nil : PPd X W pos [] [] [] := ⟨[], pps_nil, fun α F σ H δ S Q hr hs h => h.now hr ⟨.nil, .nil⟩⟩
theorem ppd_cons {k v : Expr} {ks : List (Option Expr)} {vs : List Expr} {rk rv : RE} {ps : List (RE × RE)} (hk : PD X W k rk) (hv : PD X W v rv) (h : PPd X W pos ks vs ps) : PPd X W pos (some k :: ks) (v :: vs) ((rk, rv) :: ps) := by
  obtain ⟨tk, p1, s1⟩ := hk.ex
  obtain ⟨tv, p2, s2⟩ := hv.ex
  obtain ⟨trs, p3, s3⟩ := h.ex
  refine ⟨(tk, tv) :: trs, pps_cons p1 p2 p3, fun α F σ H δ S Q hr hs h => ?_⟩
  refine s1 α F σ H δ S _ hr hs (wp.bind h fun x S1 _ xv H1 β F1 r1 q1 v1 h1 => ?_)
  refine s2 (α ++ β) F1 σ H1 δ S1 _ r1 (hs.mono q1.sub) (wp.bind h1 fun y S2 _ yv H2 γ F2 r2 q2 v2 h2 => ?_)
  refine s3 (α ++ β ++ γ) F2 σ H2 δ S2 _ r2 ((hs.mono q1.sub).mono q2.sub) (wp.bind h2 fun zs S3 _ zv H3 ε F3 r3 q3 v3 h3 => ?_)
  exact h3.now r3 ⟨.cons ((v1.mono q2.sub).mono q3.sub) v3.1, .cons (v2.mono q3.sub) v3.2⟩
theorem keysOf : ∀ {kvs : List (D × D)} {ps : List (V × V)}, kvs.all (fun p => isKey p.1) = true → DVs wd K mg F α (ps.map (·.1)) (kvs.map (·.1)) → DVs wd K mg F α (ps.map (·.2)) (kvs.map (·.2)) → ∃ ws : List (Key × V), ps = ws.map (fun kv => (kV kv.1, kv.2)) ∧ KVs wd K mg F α ws kvs
  | [], [], _, _, _ => ⟨[], rfl, .nil⟩
  | [], _ :: _, _, h, _ => by have := h.length; simp at this
  | _ :: _, [], _, h, _ => by have := h.length; simp at this
  | (q, d) :: kvs, (x, y) :: ps, hk, h, g => by
    rw [List.all_cons, Bool.and_eq_true] at hk
    have h' : DVs wd K mg F α (x :: ps.map (·.1)) (q :: kvs.map (·.1)) := h
    have g' : DVs wd K mg F α (y :: ps.map (·.2)) (d :: kvs.map (·.2)) := g
    cases h' with
    | cons h1 h2 =>
      cases g' with
      | cons g1 g2 =>
        obtain ⟨ws, e1, e2⟩ := keysOf hk.2 h2 g2
        obtain ⟨k, ek⟩ := isKey_kD hk.1
        have ek : q = kD k := ek
        subst ek
        have := kD_DV h1
        subst this
        exact ⟨(k, y) :: ws, by rw [e1]; rfl, .cons g1 e2⟩
theorem pf_disp {ks : List (Option Expr)} {vs : List Expr} {ps : List (RE × RE)} (h : PPd X W pos ks vs ps) (hall : ks.all (·.isSome) = true := by rfl) (hl : ks.length = vs.length := by rfl) (h0 : ks ≠ [] := by intro z; cases z) (h15 : ks.length ≤ 15 := by decide) : PF X W (.Dict ks vs pos) (rDisp ps) := by
  obtain ⟨trs, p1, s1⟩ := h.ex
  refine ⟨_, pe_disp p1 hall hl h0 h15, fun α F σ H δ S Q hr hs h => fun ad had => ?_⟩
  have n := hr.notin had
  have f := hr.notF had
  unfold rDisp at h
  have hr' := hr.other (o := .dK []) n f
  refine s1 α F σ (upd H ad (.dK [])) δ S _ hr' hs ?_
  have stt : Stp α F H [] F (upd H ad (.dK [])) := Stp.refl.other had
  cases q : rPairs ps δ S with
  | err c fs S1 =>
    rw [q] at h
    intro cls dd H' β F' r1 st er
    have := stt.trans (β := []) (γ := β) (by rw [List.append_nil]; exact st)
    exact h cls dd H' β F' r1 this er
  | stuck => rw [q] at h; exact h.elim
  | ok kvs S1 =>
    rw [q] at h
    have h1 : wpF X.w X.K X.mg α F H (if kvs.all (fun p => isKey p.1) && decide (kvs.length ≤ 15) then .ok (.dct (mergeD [] kvs)) S1 else .stuck) Q _ := h
    split at h1
    · rename_i hc
      rw [Bool.and_eq_true] at hc
      intro pv H' β F' r1 st ⟨g1, g2⟩
      obtain ⟨ws, e1, e2⟩ := keysOf hc.1 g1 g2
      have st' := stt.trans (β := []) (γ := β) (by rw [List.append_nil]; exact st)
      rw [List.nil_append] at st'
      have hD : H' ad = some (.dK []) := st.frame ad _ n upd_same
      have fD : F' ad = none := st.fnew ad n f (by rw [upd_same]; exact fun z => nomatch z)
      have nD : ad ∉ α ++ β := by
        intro z
        rcases List.mem_append.mp z with z | z
        · exact n z
        · have := st.new ad z
          rw [upd_same] at this; cases this
      refine ⟨hD, ws, e1, by rw [e2.length]; exact of_decide_eq_true hc.2, ?_⟩
      exact h1 ad _ β F' (r1.other nD fD) (st'.other had) had nD fD (Own.dctK.mpr ⟨_, upd_same, KVs.merge e2 .nil⟩) rfl
    · exact h1.elim
theorem pf_dnew : PF X W (.Dict [] [] pos) (rC (.dct [])) := ⟨_, pe_dnewK, fun α F σ H δ S Q hr hs h => fun ad had => wpF.lay h hr had (Own.dctK.mpr ⟨[], upd_same, .nil⟩) rfl⟩
end
end DL
set_option Elab.async false
set_option linter.all false
set_option maxRecDepth 100000
set_option maxHeartbeats 4000000
set_option autoImplicit false
/-! Data layer, last part: defs by their names, the law's end. -/
namespace DL
open PySem PySem.Spec PyProof.Rows L2
/-- the text of a def stands under its name -/
structure Fd (K : Fg) (mg : Str → Option Value) (x : Str) (st : Stmt) (ps : List Str) : Prop where
  ex : ∃ (f : Addr) (fd : FuncData), Fun K x x st f fd ∧ mg x = some (.ref f) ∧ Binds K fd ps []
/-- a def keeps to its mirror -/
structure Fn (P : Program) (w : World) (K : Fg) (mg : Str → Option Value) (base : Heap) (x : Str) (n k : Nat) (m : Mir) : Prop where
  ex : ∃ (f : Addr) (fd : FuncData) (ps : List Str), mg x = some (.ref f) ∧ PySem.W.keepIn K (.ref f) = true ∧ Binds K fd ps [] ∧ FnG P w K mg base k f fd ps (spD w K mg n m)
section
variable {X : Cx} {W : WX} {a b c e tg : Expr} {es rest : List Expr} {ra rb rc : RE} {ba bb : RB} {rs : RA} {pos p : Pos} {wd : World} {K : Fg} {mg : Str → Option Value} {α β : List Addr} {F F1 H H1 : Hp} {S : Sto}
theorem pd_fn {x : Str} {m : Mir} {n k : Nat} (F : Fn X.prog X.w X.K X.mg X.base x n k m) (hr : Room k X.A) (hG : X.A.guards = some []) (tk : Takes X W) (ha : PDs X W (e :: es) rs) (hl : (e :: es).length = n := by rfl) (hg : Gl X x := by rfl) (hdb : (x == ("__debug__" : Str)) = false := by decide)
    (he : starEach (e :: es) X.env = (false, eval e X.env) :: starEach es X.env := by rfl) (hpl : (backTo pos (starEach es X.env)).any (·.1) = false := by rfl) : PD X W (.Call (.Name x p) (e :: es) [] pos) (rCall m rs) := by
  obtain ⟨f, fd, ps, h1, h2, h3, h4⟩ := F.ex
  exact pd_call h4 hr hG h1 h2 h3 tk ha hl hg hdb he hpl
theorem pd_giE {x : Str} {i : Int} (hm : ∃ t, X.mg x = some (.int i t)) (hg : Gl X x := by rfl) (hd : (x == ("__debug__" : Str)) = false := by decide) : PD X W (.Name x pos) (rC (.int i)) := let ⟨_, h⟩ := hm; pd_gi h hg hd
theorem fun_of {x qual : Str} {st : Stmt} {f : Addr} {fd : FuncData} (F : FunD K x qual (defArgs st) (defBody st) (defScope st) [] [] f fd) : Fun K x qual st f fd := by
  obtain ⟨oc, od, dV, kV, doc, pm, an, cdv, ct, osl, e, lk, hcd, hD, _⟩ := F.ex
  rcases hD with ⟨_, rfl⟩ | ⟨z, _⟩
  · exact ⟨⟨oc, od, kV, doc, pm, an, cdv, ct, osl, e, lk, hcd⟩, F.kp⟩
  · exact absurd rfl z
/-- what a body's derivation is given -/
structure Env1 (X : Cx) (k : Nat) : Prop where
  room : Room k X.A
  gu : X.A.guards = some []
  hp : PassesOwn (model X.prog X.w) X.A X.env X.xe
theorem Env1.u64 {k : Nat} (h : Env1 X k) : X.A.units + 64 < cLine := by have := h.room.un; omega
theorem fn_mk {P : Program} {w : World} {base : Heap} {x : Str} {st : Stmt} {N ps : List Str} {k : Nat} {r : RS} (Fu : Fd K mg x st ps) (Sc : FnScope N ps (defScope st))
    (hbody : ∀ (f : Addr) (cdv : Value) (A : Around) (outer : List Env) (s : Shared) (H : Hp) (E : XK), Env1 (cxOf (L2.CX P w) P w K mg base N x (defScope st) f cdv A outer s H E) k → Takes (cxOf (L2.CX P w) P w K mg base N x (defScope st) f cdv A outer s H E) (fun cls d _ H => E cls d H) →
      PSds (cxOf (L2.CX P w) P w K mg base N x (defScope st) f cdv A outer s H E) (fun cls d _ H => E cls d H) (defBody st) r) : Fn P w K mg base x ps.length (k + 1) (mDef N.length r) := by
  obtain ⟨f, fd, h1, h2, h3⟩ := Fu.ex
  exact ⟨f, fd, ps, h2, h1.kp, h3, fn_okD h1 Sc fun cdv A outer s H E hr hG => hbody f cdv A outer s H E ⟨hr, hG, passes_of rfl⟩ (takes_of rfl rfl rfl rfl)⟩
end
end DL
set_option Elab.async false
set_option linter.all false
set_option maxRecDepth 100000
set_option maxHeartbeats 4000000
set_option autoImplicit false
/-! Data layer: the law's call. -/
namespace DL
open PySem PySem.Spec PyProof.Rows L2
section
variable {P : Program} {w : World} {K : Fg} {mg mb : Str → Option Value} {k : Nat} {fa a : Addr} {fd : FuncData} {x : Str} {m : Mir} {S1 : Shared} {us : List Value} {ns : List Int} {H : Hp}
theorem bv_len : bootBuiltins "len" = some (.builtin "len") := by decide +kernel
theorem bv_isinstance : bootBuiltins "isinstance" = some (.builtin "isinstance") := by decide +kernel
theorem bv_all : bootBuiltins "all" = some (.builtin "all") := by decide +kernel
theorem bv_sum : bootBuiltins "sum" = some (.builtin "sum") := by decide +kernel
theorem bv_max : bootBuiltins "max" = some (.builtin "max") := by decide +kernel
theorem bv_int : bootBuiltins "int" = some (.type "int") := by decide +kernel
theorem bv_bool : bootBuiltins "bool" = some (.type "bool") := by decide +kernel
theorem bv_tuple : bootBuiltins "tuple" = some (.type "tuple") := by decide +kernel
/-- what the tracked heap of a law's beginning may hold: the script alone, known to its object -/
structure Lone (K : Fg) (H : Hp) (a : Addr) : Prop where
  at_ : ∀ b, H b ≠ none → b = a
  notK : H a ≠ none → K.lookup a = none
  frz : ∀ b u, H b = some u → ∃ o xs, u = .frz o (.lst xs)
theorem Lone.off (L : Lone K H a) {b : Addr} (h : b ≠ a) : H b = none := by
  cases q : H b with
  | none => rfl
  | some u => exact absurd (L.at_ b (by rw [q]; simp)) h
abbrev lsObj (us : List Value) : Obj := { cls := .type "list", data := .seq us.toArray }
theorem Lone.space (L : Lone K H a) (ha : S1.heap.get? a = some (lsObj us)) {b : Addr} {f : Str → Option Value} (h : S1.heap.Ns b f) : (hidT S1.heap H).Ns b f := by
  obtain ⟨o, es, ep, g, d, r⟩ := h
  have hb : b ≠ a := fun z => by
    subst z
    have e : lsObj us = o := Option.some.inj (ha.symm.trans g)
    subst e
    exact nomatch d
  exact ⟨o, es, ep, hidT_get g (L.off hb), d, r⟩
theorem Lone.frag (L : Lone K H a) (KX : K.In S1.heap) : K.In (hidT S1.heap H) := fun b o e => hidT_get (KX b o e) (by
  by_cases z : b = a
  · subst z
    cases q : H b with
    | none => rfl
    | some u => exact absurd ((L.notK (by rw [q]; simp)).symm.trans e) (by simp)
  · exact L.off z)
abbrev Ended (h : Heap) (os : OsState) : Result → Shared → Prop := fun r z => r = .ok (.ret (.bool true)) ∧ OldK h z.heap ∧ z.os = os ∧ AllBare z.gens
theorem law_lone (L : Lone K H a) (KX : K.In S1.heap) (n1 : S1.heap.Ns mainGlobals mg) (n2 : S1.heap.Ns builtinsNs mb) (nb : ∀ y : Str, y ≠ "__name__" → mb y = bootBuiltins y) (n3 : S1.heap.NoLimit)
    (g0 : S1.gens = #[]) (ha : S1.heap.get? a = some (lsObj us)) (hok : HOk P w H S1.heap) (hS : SqL K H a (ns.map V.int)) (room : Room k callerA)
    (F : ∀ base : Heap, K.In base → base.Ns mainGlobals mg → Fn P w K mg base x 1 k m) (bd : mg x = some (.ref fa))
    (hm : ∃ S, m [.lst (ns.map .int)] [] = .ok (.bl true) S) : codeAny (model P w) callerA (.call (.ref fa) ⟨[.ref a], []⟩) (Ended S1.heap S1.os) S1 := by
  obtain ⟨c, i1, i2⟩ := n3
  have M : Mod K mg (hidT S1.heap H) := ⟨L.frag KX, L.space ha n1, ⟨mb, L.space ha n2, nb⟩, ⟨c, L.space ha i1, i2⟩⟩
  have e0 : Env0 P w K mg (hidT S1.heap H) callerA [] S1 H := ⟨rfl, M, fun _ _ e => of_hidT e, Nat.le_of_eq (hidT_size _ _), trivial, fun _ q => (nomatch q), hok, .of_eq g0⟩
  have sp : spD w K mg 1 m [V.ref a] H (fun v _ => v = .bl true) (fun _ _ _ => False) := by
    refine ⟨rfl, [], H, [], [.lst (ns.map .int)], ⟨Sub.refl _, rfl, List.nodup_nil, fun _ q => (nomatch q), fun j b d q => (by simp at q)⟩, .cons (.lst hS (DVs.of_ints ns)) .nil, ?_⟩
    obtain ⟨S, e⟩ := hm
    rw [e]
    intro b H' β F' _ _ hv
    cases hv
    rfl
  obtain ⟨f', fd, ps, q1, _, q2, q3⟩ := (F _ M.kin (L.space ha n1)).ex
  obtain rfl : f' = fa := by rw [q1] at bd; cases bd; rfl
  have bt : BindsTo S1 fd ⟨[.ref a], []⟩ (ps.zip [.ref a]) := q2 S1 [.ref a] KX (q3.len _ _ _ _ sp)
  refine codeAny_mono (q3.run callerA [] S1 H ⟨[.ref a], []⟩ [.ref a] [V.ref a] (fun v _ => v = .bl true) _ room rfl e0 bt (.cons rfl .nil) sp) fun r z q => ?_
  match r, q with
  | .error _, ⟨_, _, _, _, _, _, _, _, _, _, _, q⟩ => exact q.2.elim
  | .ok (.ret u), ⟨v, H', os, bare, un, hok', r', q⟩ =>
    have q : v = .bl true := q
    subst q
    have r' : u = Value.bool true := r'
    subst r'
    refine ⟨rfl, OldK.of_keep fun b o e => ?_, os, bare⟩
    by_cases z : H b = none
    · exact un.keep b o e z (fun y => nomatch y) (fun y => nomatch y)
    · obtain ⟨y, hy⟩ : ∃ y, H b = some y := by
        cases q : H b with
        | none => exact absurd q z
        | some y => exact ⟨y, rfl⟩
      obtain ⟨ob, xs, rfl⟩ := L.frz b y hy
      have o1 := (hok b _ hy).1
      have o2 := (hok' b _ (un.frzs b ob _ hy)).1
      rw [e] at o1
      exact o2.trans o1.symm
  | .ok .next, q => exact q.elim
  | .ok .brk, q => exact q.elim
  | .ok .cont, q => exact q.elim
theorem law_mir (KX : K.In S1.heap) (n1 : S1.heap.Ns mainGlobals mg) (n2 : S1.heap.Ns builtinsNs mb) (nb : ∀ y : Str, y ≠ "__name__" → mb y = bootBuiltins y) (n3 : S1.heap.NoLimit) (g0 : S1.gens = #[]) (ha : S1.heap.get? a = some (lsObj us))
    (hi : IntsAre us ns) (hl : ns.length ≤ sizeLine) (room : Room k callerA) (F : ∀ base : Heap, K.In base → base.Ns mainGlobals mg → Fn P w K mg base x 1 k m) (bd : mg x = some (.ref fa))
    (hm : ∃ S, m [.lst (ns.map .int)] [] = .ok (.bl true) S) : codeAny (model P w) callerA (.call (.ref fa) ⟨[.ref a], []⟩) (Ended S1.heap S1.os) S1 := by
  have rv := vals_ints hi
  cases hk : K.lookup a with
  | some o =>
    have e := (KX a o hk).symm.trans ha
    cases e
    exact law_lone (H := fun _ => none) ⟨fun _ q => absurd rfl q, fun q => absurd rfl q, fun _ _ q => nomatch q⟩ KX n1 n2 nb n3 g0 ha (fun _ _ q => nomatch q)
      (.inr ⟨_, us.toArray, _, hk, rfl, rfl, rfl, by rw [List.size_toArray, hi.length]; exact hl, by simpa using rv⟩) room F bd hm
  | none =>
    refine law_lone (H := upd (fun _ => none) a (.frz (lsObj us) (.lst (ns.map V.int)))) ⟨fun b q => ?_, fun _ => hk, fun b u q => ?_⟩ KX n1 n2 nb n3 g0 ha (fun b u q => ?_) (.inl (.inr ⟨_, upd_same⟩)) room F bd hm
    · by_cases z : b = a
      · exact z
      · rw [upd_ne z] at q; exact absurd rfl q
    · by_cases z : b = a
      · subst z; rw [upd_same] at q; cases q; exact ⟨_, _, rfl⟩
      · rw [upd_ne z] at q; cases q
    · by_cases z : b = a
      · subst z; rw [upd_same] at q; cases q
        exact ⟨ha, by rw [List.length_map]; exact hl, us, _, rv, ha⟩
      · rw [upd_ne z] at q; cases q
end
/-- a law's end: what is given by the head, the mirror's answer -/
theorem walkG {l : PySem.W.OpenLaw} {n k : Nat} {q : Program} {loose : List Str} {XP : (Str → Option Value) → Heap → Prop} {YP : World → Heap → Prop} {d : DefRec} {m : Mir} (hn : l.most = some n) (hs : n ≤ sizeLine) (hd : d.params.defaults = []) (hr : Room k callerA)
    (F : ∀ (w : World) (mg : Str → Option Value) (h : Heap), YP w h → h.Ns mainGlobals mg → ∃ K : Fg, K.In h ∧ ∀ base : Heap, K.In base → base.Ns mainGlobals mg → Fn l.prog w K mg base d.name 1 k m)
    (hm : ∀ ns : List Int, ns.length ≤ n → ∃ S, m [.lst (ns.map .int)] [] = .ok (.bl true) S) : PySem.W.WalkO q loose XP YP l.row.toRowW d [] (fun f vs => PySem.call f vs) :=
  Att.attach_call hn hd fun w _ z mg mb fa _ _ _ _ a us ns G Y _ _ _ hmg ha hi hl hg => by
    obtain ⟨K, KX, hF⟩ := F w mg _ Y G.T.g
    exact law_mir KX G.T.g G.T.b G.T.builtins G.T.nolimit hg ha hi (Nat.le_trans hl hs) hr hF hmg (hm ns hl)
end DL
set_option Elab.async false
set_option linter.all false
set_option maxRecDepth 100000
set_option maxHeartbeats 4000000
set_option autoImplicit false
/-! Data layer: dicts whatever their keys: get, in, store. -/
namespace DL
open PySem PySem.Spec PyProof.Rows L2
/-! ### keys -/
mutual
inductive NK (K : Fg) (H : Hp) : NestedKey → V → Prop
  | non : NK K H .none .non
  | bl (b : Bool) : NK K H (.num (if b = true then 1 else 0)) (.bl b)
  | int (i : Int) : NK K H (.num i) (.int i)
  | str (x : Str) : NK K H (.text x) (.str x)
  | tup {a : Addr} {vs : List V} {ks : List NestedKey} : SqT K H a vs → NKs K H ks vs → NK K H (.tup ks) (.ref a)
inductive NKs (K : Fg) (H : Hp) : List NestedKey → List V → Prop
  | nil : NKs K H [] []
  | cons {k : NestedKey} {v : V} {ks : List NestedKey} {vs : List V} : NK K H k v → NKs K H ks vs → NKs K H (k :: ks) (v :: vs)
end
section
variable {wd : World} {K : Fg} {mg : Str → Option Value} {F H : Hp} {α : List Addr} {S : Sto}
mutual
theorem DV.nk {v : V} : ∀ {d : D} {k : NestedKey}, DV wd K mg F α v d → keyN d = some k → Sub F H → NK K H k v
  | _, _, .non, e, _ => by cases e; exact .non
  | _, _, .bl b, e, _ => by cases e; exact .bl b
  | _, _, .int i, e, _ => by cases e; exact .int i
  | _, _, .str x, e, _ => by cases e; exact .str x
  | _, _, .tup h t, e, s => by
    rename_i ds
    unfold keyN at e
    cases q : keyNs ds with
    | none => rw [q] at e; cases e
    | some ys => rw [q] at e; cases e; exact .tup (s.sqT h.1) (DVs.nk t q s)
  | _, _, .lst _ _, e, _ => by cases e
  | _, _, .tux _ _, e, _ => by cases e
  | _, _, .ptr _, e, _ => by cases e
  | _, _, .fn _, e, _ => by cases e
  | _, _, .ty _, e, _ => by cases e
  | _, _, .exc _ _ _ _ _, e, _ => by cases e
  | _, _, .dc0 _ _, e, _ => by cases e
theorem DVs.nk {vs : List V} : ∀ {ds : List D} {ks : List NestedKey}, DVs wd K mg F α vs ds → keyNs ds = some ks → Sub F H → NKs K H ks vs
  | _, _, .nil, e, _ => by cases e; exact .nil
  | _, _, .cons h t, e, s => by
    rename_i d _ ds
    unfold keyNs at e
    cases q1 : keyN d with
    | none => rw [q1] at e; cases e
    | some x =>
      cases q2 : keyNs ds with
      | none => rw [q1, q2] at e; cases e
      | some xs => rw [q1, q2] at e; cases e; exact .cons (DV.nk h q1 s) (DVs.nk t q2 s)
end
end
section
variable {X : Cx} {pins : List (Addr × Obj)} {σ : L2.St} {H : Hp} {s : Shared}
mutual
theorem NK.is (I : Inv X pins σ H s) : ∀ {k : NestedKey} {v : V} {u : Value}, NK X.K H k v → RelV v u → NestedIs s.heap k u
  | _, _, u, .non, r => by have : u = Value.none := r; subst this; exact .none
  | _, _, u, .bl b, r => by have : u = Value.bool b := r; subst this; exact .bool rfl
  | _, _, u, .int i, r => by obtain ⟨t, e⟩ := (show ∃ t, u = Value.int i t from r); subst e; exact .int _ _
  | _, _, u, .str x, r => by obtain ⟨t, e⟩ := (show ∃ t, u = Value.str x t from r); subst e; exact .text _ _
  | _, _, u, .tup (a := a) h t, r => by
    have : u = Value.ref a := r
    subst this
    obtain ⟨its, rv, ⟨o, ho, hc, n, hd⟩, _⟩ := I.tuple h
    exact .tup ho hc hd (by simpa using NKs.are I t rv)
theorem NKs.are (I : Inv X pins σ H s) : ∀ {ks : List NestedKey} {vs : List V} {us : List Value}, NKs X.K H ks vs → Vals vs us → NestedAll s.heap ks us
  | _, _, _, .nil, r => by cases r; exact .nil
  | _, _, _, .cons h t, r => by
    cases r with
    | cons r1 r2 => exact .cons (NK.is I h r1) (NKs.are I t r2)
end
end
/-! ### what a dict holds, by values -/
def lookV (xs : List (NestedKey × Addr × V)) (k : NestedKey) : Option V := (xs.find? fun x => decide (x.1 = k)).map (·.2.2)
def putV1 (k : NestedKey) (v : V) (x : NestedKey × Addr × V) : NestedKey × Addr × V := if x.1 = k then (x.1, x.2.1, v) else x
def putV (xs : List (NestedKey × Addr × V)) (k : NestedKey) (a : Addr) (v : V) : List (NestedKey × Addr × V) := if (lookV xs k).isSome then xs.map (putV1 k v) else xs ++ [(k, a, v)]
theorem NV.look {xs : List (NestedKey × Addr × V)} {vs : List (NestedKey × Addr × Value)} (h : NV xs vs) (k : NestedKey) : RelO (lookV xs k) ((atKey vs k).map (·.2)) := by
  unfold NV at h
  induction h with
  | nil => trivial
  | @cons a b l₁ l₂ r t ih =>
    unfold lookV atKey at ih ⊢
    rw [List.find?_cons, List.find?_cons, ← r.1]
    by_cases q : a.1 = k
    · rw [decide_eq_true q]
      exact r.2.2
    · rw [decide_eq_false q]
      exact ih
theorem NV.isSome {xs : List (NestedKey × Addr × V)} {vs : List (NestedKey × Addr × Value)} (h : NV xs vs) (k : NestedKey) : (lookV xs k).isSome = (atKey vs k).isSome := by
  have := (h.look k).isSome_eq
  rw [Option.isSome_map] at this
  exact this
theorem NV.put {xs : List (NestedKey × Addr × V)} {vs : List (NestedKey × Addr × Value)} (h : NV xs vs) (k : NestedKey) (a : Addr) {v : V} {u : Value} (r : RelV v u) : NV (putV xs k a v) (storedH vs k a u) := by
  have e := h.isSome k
  unfold putV storedH
  rw [e]
  by_cases q : (atKey vs k).isSome = true
  · rw [if_pos q, if_pos q]
    clear q e
    unfold NV at h ⊢
    induction h with
    | nil => exact .nil
    | @cons x y l₁ l₂ z t ih =>
      refine .cons ?_ ih
      unfold putV1 putAt
      rw [← z.1]
      by_cases c : x.1 = k
      · rw [if_pos c, if_pos c]; exact ⟨rfl, z.2.1, r⟩
      · rw [if_neg c, if_neg c]; exact z
  · rw [if_neg q, if_neg q]
    exact Paired.snoc h ⟨rfl, rfl, r⟩
theorem NV.length {xs : List (NestedKey × Addr × V)} {vs : List (NestedKey × Addr × Value)} (h : NV xs vs) : xs.length = vs.length := Paired.length h
theorem NV.keys {xs : List (NestedKey × Addr × V)} {vs : List (NestedKey × Addr × Value)} (h : NV xs vs) : xs.map (·.1) = vs.map (·.1) := by
  unfold NV at h
  induction h with
  | nil => rfl
  | cons r _ ih => rw [List.map_cons, List.map_cons, ih, r.1]
theorem putV_length (xs : List (NestedKey × Addr × V)) (k : NestedKey) (a : Addr) (v : V) : (putV xs k a v).length ≤ xs.length + 1 := by
  unfold putV
  split
  · rw [List.length_map]; omega
  · rw [List.length_append]; exact Nat.le_refl _
/-- every key is a key -/
def NKeys (K : Fg) (H : Hp) (xs : List (NestedKey × Addr × V)) : Prop := ∀ x ∈ xs, NK K H x.1 (.ref x.2.1) ∧ x.1.depth ≤ 8
/-- at a stands a dict xs of tuple keys; the empty one is any -/
def NAt (w : World) (H : Hp) (a : Addr) (xs : List (NestedKey × Addr × V)) : Prop := Rd H a (dN w a xs) ∨ (xs = [] ∧ Rd H a (.dK []))
/-- .. that may be written -/
def NWr (w : World) (H : Hp) (a : Addr) (xs : List (NestedKey × Addr × V)) : Prop := H a = some (dN w a xs) ∨ (xs = [] ∧ H a = some (.dK []))
theorem NWr.at {w : World} {H : Hp} {a : Addr} {xs : List (NestedKey × Addr × V)} (h : NWr w H a xs) : NAt w H a xs := h.imp .inl fun ⟨e, q⟩ => ⟨e, .inl q⟩
theorem n_at {X : Cx} {pins : List (Addr × Obj)} {σ : L2.St} {H : Hp} {s : Shared} {a : Addr} {xs : List (NestedKey × Addr × V)} (I : Inv X pins σ H s) (e : NAt X.w H a xs) (hk : NKeys X.K H xs) :
    xs.length ≤ sizeLine ∧ (a == sysModules) = false ∧ ∃ vs, NV xs vs ∧ s.heap.DictOfH (nestedKind X.prog X.w) a vs := by
  rcases e with e | ⟨rfl, e⟩
  · obtain ⟨⟨h1, h2, h3, vs, h4, o, es, ep, h5, h6, h7, h8⟩, _⟩ := (show ObjOk X.prog X.w H s.heap a (dN X.w a xs) from e.ok I.hok)
    refine ⟨h2, h1, vs, h4, o, es, ep, h5, h6, h7, h8, fun x hx => ?_, by rw [← h4.keys]; exact h3⟩
    obtain ⟨i, hi⟩ := List.mem_iff_getElem?.mp hx
    have hl := h4.length
    obtain ⟨y, hy⟩ : ∃ y, xs[i]? = some y := ⟨_, List.getElem?_eq_getElem (by rw [hl]; exact (List.getElem?_eq_some_iff.mp hi).1)⟩
    obtain ⟨z, hz, q1, q2, _⟩ := paired_get h4 hy
    rw [hi] at hz
    cases hz
    obtain ⟨k1, k2⟩ := hk y (List.mem_of_getElem? hy)
    rw [← q1, ← q2]
    exact ⟨NK.is I k1 rfl, k2⟩
  · obtain ⟨h1, h2, vs, kv, o, es, ep, h3, h4, h5, h6⟩ := dk_rd I.hok e
    refine ⟨Nat.zero_le _, h2, [], .nil, o, es, ep, h3, h4, h5, ?_, (fun _ h => (nomatch h)), List.nodup_nil⟩
    have l1 := h6.2.1.length
    have l2 : ([] : List (Key × V)).length = vs.length := Paired.length kv
    rw [← l2] at l1
    exact List.eq_nil_of_length_eq_zero l1
section
variable {X : Cx} {pins : List (Addr × Obj)} {σ : L2.St} {H : Hp} {s : Shared} {a b : Addr} {xs : List (NestedKey × Addr × V)} {k : NestedKey} {v d : V} {u r : Value} {A : Around} {E : Value → Shared → Prop}
theorem room8 (hu : A.units + 10 < cLine) : (nestedKind X.prog X.w).room A.in1 := by
  show A.units + 1 + 8 < cLine
  omega
theorem n_getItem {Q : Value → Shared → Prop} (hu : A.units + 10 < cLine) (I : Inv X pins σ H s) (e : NAt X.w H a xs) (hk : NKeys X.K H xs) (kk : NK X.K H k (.ref b)) (hd : k.depth ≤ 8) (l : lookV xs k = some v) (h : ∀ w' s', Inv X pins σ H s' → RelV v w' → Q w' s') :
    wpAny (model X.prog X.w) A (getItem (.ref a) (.ref b)) Q E s := by
  obtain ⟨_, h2, vs, rel, dd⟩ := n_at I e hk
  obtain ⟨w', hw, rw'⟩ := RelO.some_of (v := v) (o := (atKey vs k).map (·.2)) (by rw [← l]; exact rel.look k)
  obtain ⟨p, hp, hp2⟩ := Option.map_eq_some_iff.mp hw
  refine wpAny_getItem_heap (knd := nestedKind X.prog X.w) (room8 hu) (k := k) ⟨NK.is I kk rfl, hd⟩ dd hp ?_
  rw [hp2]
  exact h w' _ (I.tok _) rw'
theorem n_setItem {Q : Unit → Shared → Prop} (hu : A.units + 10 < cLine) (I : Inv X pins σ H s) (e : NWr X.w H a xs) (hk : NKeys X.K H xs) (hz : xs.length < sizeLine) (kk : NK X.K H k (.ref b)) (hd : k.depth ≤ 8) (rv : RelV v r) (h : ∀ s', Inv X pins σ (upd H a (dN X.w a (putV xs k b v))) s' → Q () s') :
    wpAny (model X.prog X.w) A (setItem (.ref a) (.ref b) r) Q E s := by
  obtain ⟨h1, h2, vs, rel, dd⟩ := n_at I e.at hk
  have hz' : vs.length ≤ sizeLine := by rw [← rel.length]; exact h1
  refine wpAny_setItem_heap (knd := nestedKind X.prog X.w) (hsz := hz') (room8 hu) (k := k) ⟨NK.is I kk rfl, hd⟩ dd fun h' dd' hs => h _ ?_
  obtain ⟨q, es, ep, hq, g2, g3, g4, _, g5⟩ := dd'
  refine d_write I (by rcases e with e | ⟨_, e⟩ <;> rw [e] <;> exact True.intro) hs ⟨q, hq⟩ ?_
  have rel' := rel.put k b rv
  refine ⟨⟨h2, by have := putV_length xs k b v; omega, by rw [rel'.keys]; exact g5, _, rel', q, es, ep, hq, g2, g3, g4⟩, ⟨q, hq⟩, fun z1 z2 ⟨p1, p2, p3, vs', p4, o', es', ep', p5, p6⟩ st => ⟨p1, p2, p3, vs', p4, o', es', ep', st _ p5, p6⟩⟩
end
/-- what the dict at a holds at y, whatever its keys -/
def UGet (w : World) (K : Fg) (H : Hp) (a : Addr) (y : V) (o : Option V) : Prop := DGet H a y o ∨ ∃ xs k b, NAt w H a xs ∧ NKeys K H xs ∧ y = .ref b ∧ NK K H k (.ref b) ∧ k.depth ≤ 8 ∧ o = lookV xs k
/-- the heap behind a[y] = v -/
def UPut (w : World) (K : Fg) (H : Hp) (a : Addr) (y v : V) (H' : Hp) : Prop := DPut H a y v H' ∨ ∃ xs k b, NWr w H a xs ∧ NKeys K H xs ∧ y = .ref b ∧ NK K H k (.ref b) ∧ k.depth ≤ 8 ∧ xs.length < sizeLine ∧ H' = upd H a (dN w a (putV xs k b v))
section
variable {X : Cx} {pins : List (Addr × Obj)} {σ : L2.St} {H : Hp} {s : Shared} {a : Addr} {y v d : V} {u r : Value} {o : Option V} {A : Around} {E : Value → Shared → Prop}
theorem u_typeIs (I : Inv X pins σ H s) (g : UGet X.w X.K H a y o) : s.TypeIs (.ref a) "dict" ∧ (∀ b, Value.ref a = .ref b → ∃ ob, s.heap.get? b = some ob ∧ ob.dict = none) := by
  rcases g with g | ⟨xs, k, b, e, hk, _⟩
  · exact ⟨dict_typeIs I g, dict_noDict I g⟩
  · obtain ⟨_, _, vs, _, dd⟩ := n_at I e hk
    refine ⟨dd.typeIs, fun b q => ?_⟩
    cases q
    obtain ⟨ob, _, _, h1, h2, _⟩ := dd
    exact ⟨ob, h1, h2.2.1⟩
theorem u_getItem {Q : Value → Shared → Prop} (hu : A.units + 10 < cLine) (I : Inv X pins σ H s) (g : UGet X.w X.K H a y (some v)) (ry : RelV y u) (h : ∀ w' s', Inv X pins σ H s' → RelV v w' → Q w' s') :
    wpAny (model X.prog X.w) A (getItem (.ref a) u) Q E s := by
  rcases g with g | ⟨xs, k, b, e, hk, rfl, kk, hd, l⟩
  · exact d_getItem (by omega) I g ry h
  · cases (show u = Value.ref b from ry)
    exact n_getItem hu I e hk kk hd l.symm h
theorem u_setItem {H' : Hp} {Q : Unit → Shared → Prop} (hu : A.units + 10 < cLine) (I : Inv X pins σ H s) (g : UPut X.w X.K H a y v H') (ry : RelV y u) (rv : RelV v r) (h : ∀ s', Inv X pins σ H' s' → Q () s') :
    wpAny (model X.prog X.w) A (setItem (.ref a) u r) Q E s := by
  rcases g with g | ⟨xs, k, b, e, hk, rfl, kk, hd, hz, rfl⟩
  · exact d_setItem (by omega) I g ry rv h
  · cases (show u = Value.ref b from ry)
    exact n_setItem hu I e hk hz kk hd rv h
end
def tUGet (X : Cx) (td ty : TE) : TE := fun σ H Q => td σ H fun x H1 => ty σ H1 fun y H2 => ∃ a v, x = .ref a ∧ UGet X.w X.K H2 a y (some v) ∧ Q v H2
def sUPut (X : Cx) (td ty tv : TE) : TS := fun D σ H => tv σ H fun v H1 => td σ H1 fun x H2 => ty σ H2 fun y H3 => ∃ a H4, x = .ref a ∧ UPut X.w X.K H3 a y v H4 ∧ D.nx σ H4
section
variable {X : Cx} {o i e f value : Expr} {pos pos' tpos apos cpos : Pos} {td ty tv tx : TE}
theorem pe_uget (hu : X.A.units + 10 < cLine) (ho : PE X o td) (hi : PE X i ty) (hs : NoSl i) : PE X (.Subscript o i pos) (tUGet X td ty) := by
  refine ⟨fun pins s σ H Q I h => ?_⟩
  refine subD_of PySem.F.slot_dict_getitem.lookup hs (thn (ho.run pins s σ H _ I h) fun u s1 ⟨x, H1, I1, rx, q1⟩ => thn (hi.run pins s1 σ H1 _ I1 q1) fun iv s2 ⟨y, H2, I2, ry, a, v, ex, g, q2⟩ => ?_)
  subst ex
  obtain rfl : u = Value.ref a := rx
  exact ⟨(u_typeIs I2 g).1, u_getItem hu I2 g ry fun w' s3 I3 rw' => ⟨v, H2, I3, rw', q2⟩⟩
theorem ps_uput (hu : X.A.units + 10 < cLine) (ho : PE X o td) (hi : PE X i ty) (hv : PE X value tv) (hs : swapsWith value (some (.Subscript o i pos')) pos.line X.env = pure false) :
    PS X (.Assign [.Subscript o i pos'] value pos) (sUPut X td ty tv) := by
  refine ⟨fun pins s σ H D I h => ?_⟩
  refine wpAny_Assign_Subscript (thn (hv.run pins s σ H _ I h) fun r s1 ⟨v, H1, I1, rv, q1⟩ => thn (ho.run pins s1 σ H1 _ I1 q1) fun u s2 ⟨x, H2, I2, rx, q2⟩ => thn (hi.run pins s2 σ H2 _ I2 q2) fun iv s3 ⟨y, H3, I3, ry, a, H4, ex, g, q3⟩ => ?_) hs
  subst ex
  obtain rfl : u = Value.ref a := rx
  exact u_setItem hu I3 g ry rv fun s4 I4 => ⟨σ, H4, I4, q3⟩
end
end DL
set_option Elab.async false
set_option linter.all false
set_option maxRecDepth 100000
set_option maxHeartbeats 4000000
set_option autoImplicit false
/-! Data layer: dicts whatever their keys, by data. -/
namespace DL
open PySem PySem.Spec PyProof.Rows L2
def lookU (S : Sto) (d q : D) : Option (Option D) := match deref S d with
  | .dct kvs => if isKey q then some (lookD kvs q) else if kvs.isEmpty && isKeyN q then some none else none
  | .dcn kvs => if isKeyN q then some (lookN kvs q) else none
  | _ => none
def gGetU : Sto → D → D → Option D := fun S d q => match lookU S d q with
  | some (some v) => some v
  | _ => none
def isDct (S : Sto) (d : D) : Bool := match deref S d with
  | .dct _ => true
  | .dcn _ => true
  | _ => false
/-- d.get(k, x) -/
def rGet2 (a k x : RE) : RE := fun δ S => (a δ S).bind fun d S1 => if isDct S1 d then (k δ S1).bind fun q S2 => (x δ S2).bind fun z S3 => .lift ((lookU S3 d q).map (·.getD z)) S3 else .stuck
/-- d[k] = v -/
def putU (u y z : D) : Option D := match u with
  | .dct kvs => if isKey y then (if kvs.length < sizeLine then some (.dct (putD kvs y z)) else none) else if kvs.isEmpty && isKeyN y then some (.dcn [(y, z)]) else none
  | .dcn kvs => if isKeyN y && decide (kvs.length < sizeLine) then some (.dcn (putN kvs y z)) else none
  | _ => none
def sPutU (d k v : RE) : RS := fun δ S => (v δ S).out δ fun z S1 => (d δ S1).out δ fun x S2 => (k δ S2).out δ fun y S3 => match x with
  | .ptr n => (match S3[n]? with
    | some u => (match putU u y z with
      | some u' => .nx δ (S3.set n u')
      | none => .stuck)
    | none => .stuck)
  | _ => .stuck
section
variable {wd : World} {K : Fg} {mg : Str → Option Value} {α β : List Addr} {F F1 H H1 : Hp} {S : Sto}
theorem isKeyN_ex {q : D} (h : isKeyN q = true) : ∃ ds nk, q = .tup ds ∧ keyN q = some nk ∧ nk.depth ≤ 8 := by
  cases q with
  | tup ds =>
    unfold isKeyN at h
    dsimp only at h
    split at h
    · rename_i k e
      exact ⟨ds, k, rfl, e, of_decide_eq_true h⟩
    · cases h
  | _ => cases h
theorem eqN_dec {a b : D} {x y : NestedKey} (h1 : keyN a = some x) (h2 : keyN b = some y) : eqN a b = decide (x = y) := by
  unfold eqN
  rw [h1, h2, NestedKey.decide_eq]
theorem NVs.keys {xs : List (NestedKey × Addr × V)} {kvs : List (D × D)} (h : NVs wd K mg F α xs kvs) (s : Sub F H) : NKeys K H xs := by
  induction h with
  | nil => intro x hx; cases hx
  | cons h1 h2 h3 _ _ _ ih =>
    intro x hx
    rcases List.mem_cons.mp hx with rfl | hx
    · exact ⟨h3.nk h1 s, h2⟩
    · exact ih x hx
theorem NVs.length {xs : List (NestedKey × Addr × V)} {kvs : List (D × D)} (h : NVs wd K mg F α xs kvs) : xs.length = kvs.length := by
  induction h with
  | nil => rfl
  | cons _ _ _ _ _ _ ih => rw [List.length_cons, List.length_cons, ih]
theorem putV1_pos {k : NestedKey} {v : V} {x : NestedKey × Addr × V} (h : x.1 = k) : putV1 k v x = (x.1, x.2.1, v) := if_pos h
theorem putV1_neg {k : NestedKey} {v : V} {x : NestedKey × Addr × V} (h : ¬ x.1 = k) : putV1 k v x = x := if_neg h
theorem NVs.look {xs : List (NestedKey × Addr × V)} {kvs : List (D × D)} (h : NVs wd K mg F α xs kvs) {q : D} {nk : NestedKey} (hq : keyN q = some nk) :
    (∀ d, lookN kvs q = some d → ∃ v, lookV xs nk = some v ∧ DV wd K mg F α v d) ∧ (lookN kvs q = none → lookV xs nk = none) := by
  induction h with
  | nil => exact ⟨(fun d e => by cases e), fun _ => rfl⟩
  | @cons nk' b' v' q' d' xs kvs h1 h2 h3 h4 h5 h6 ih =>
    unfold lookN lookV
    rw [eqN_dec h1 hq, List.find?_cons]
    by_cases e : nk' = nk
    · rw [decide_eq_true e]
      exact ⟨(fun d z => by cases z; exact ⟨_, rfl, h5⟩), fun z => by cases z⟩
    · rw [decide_eq_false e]
      exact ih
theorem NVs.isSome {xs : List (NestedKey × Addr × V)} {kvs : List (D × D)} (h : NVs wd K mg F α xs kvs) {q : D} {nk : NestedKey} (hq : keyN q = some nk) : (lookN kvs q).isSome = (lookV xs nk).isSome := by
  obtain ⟨h1, h2⟩ := h.look hq
  cases e : lookN kvs q with
  | none => rw [h2 e]; rfl
  | some d => obtain ⟨v, e1, _⟩ := h1 d e; rw [e1]; rfl
theorem NVs.append {xs ys : List (NestedKey × Addr × V)} {kvs lws : List (D × D)} (h : NVs wd K mg F α xs kvs) (g : NVs wd K mg F α ys lws) : NVs wd K mg F α (xs ++ ys) (kvs ++ lws) := by
  induction h with
  | nil => exact g
  | cons h1 h2 h3 h4 h5 _ ih => exact .cons h1 h2 h3 h4 h5 ih
theorem NVs.put {xs : List (NestedKey × Addr × V)} {kvs : List (D × D)} (h : NVs wd K mg F α xs kvs) {q d : D} {nk : NestedKey} {b : Addr} {v : V} (hq : keyN q = some nk) (hd : nk.depth ≤ 8) (hb : DV wd K mg F α (.ref b) q) (ht : ∃ ds, q = .tup ds) (hv : DV wd K mg F α v d) :
    NVs wd K mg F α (putV xs nk b v) (putN kvs q d) := by
  unfold putV putN
  rw [← h.isSome hq]
  by_cases c : (lookN kvs q).isSome = true
  · rw [if_pos c, if_pos c]
    clear c
    induction h with
    | nil => exact .nil
    | @cons nk' b' v' q' d' xs kvs h1 h2 h3 h4 h5 _ ih =>
      rw [List.map_cons]
      unfold replN
      rw [eqN_dec h1 hq]
      by_cases z : nk' = nk
      · rw [decide_eq_true z, if_pos rfl, putV1_pos (x := (nk', b', v')) z]
        exact .cons h1 h2 h3 h4 hv ih
      · rw [decide_eq_false z, if_neg (show ¬ false = true by decide), putV1_neg (x := (nk', b', v')) z]
        exact .cons h1 h2 h3 h4 h5 ih
  · rw [if_neg c, if_neg c]
    exact h.append (.cons hq hd hb ht hv .nil)
theorem DV.isRef {v : V} {ds : List D} (h : DV wd K mg F α v (.tup ds)) : ∃ b, v = .ref b := by cases h; exact ⟨_, rfl⟩
theorem Rel.uget (hr : Rel wd K mg α F H S) {x y : V} {d q : D} {r : Option D} (hx : DV wd K mg F α x d) (hy : DV wd K mg F α y q) (e : lookU S d q = some r) :
    ∃ a o, x = .ref a ∧ UGet wd K H a y o ∧ (r = none → o = none) ∧ ∀ z, r = some z → ∃ v, o = some v ∧ DV wd K mg F α v z := by
  have s := hr.see hx
  unfold lookU at e
  generalize hd : deref S d = dd at e s
  cases s with
  | «at» h _ => cases h <;> cases e
  | dead => cases e
  | lst _ _ => cases e
  | @dct a ws kvs rd k t =>
    dsimp only at e
    split at e
    · rename_i hk
      cases e
      obtain ⟨k', rfl⟩ := isKey_kD hk
      have := kD_DV hy
      subst this
      have kv := KVs.of k t
      obtain ⟨g1, g2⟩ := kv.look k'
      exact ⟨a, valV ws k', rfl, .inl (.inl ⟨ws, k', rd, rfl, rfl⟩), g2, g1⟩
    · split at e
      · rename_i hc
        cases e
        rw [Bool.and_eq_true] at hc
        obtain ⟨ds, nk, rfl, h1, h2⟩ := isKeyN_ex hc.2
        obtain ⟨b, rfl⟩ := DV.isRef hy
        have : kvs = [] := List.isEmpty_iff.mp hc.1
        subst this
        have : ws = [] := by have := t.length; simpa using this
        subst this
        exact ⟨a, none, rfl, .inr ⟨[], nk, b, .inr ⟨rfl, rd⟩, (fun _ h => nomatch h), rfl, hy.nk h1 hr.sub, h2, rfl⟩, fun _ => rfl, fun z hz => by cases hz⟩
      · cases e
  | @dcn a xs kvs rd nv =>
    dsimp only at e
    split at e
    · rename_i hk
      cases e
      obtain ⟨ds, nk, rfl, h1, h2⟩ := isKeyN_ex hk
      obtain ⟨b, rfl⟩ := DV.isRef hy
      obtain ⟨g1, g2⟩ := nv.look h1
      exact ⟨a, lookV xs nk, rfl, .inr ⟨xs, nk, b, .inl rd, nv.keys hr.sub, rfl, hy.nk h1 hr.sub, h2, rfl⟩, g2, g1⟩
    · cases e
end
section
variable {X : Cx} {W : WX} {a b c e tg : Expr} {es rest : List Expr} {ra rb rc : RE} {ba bb : RB} {rs : RA} {pos p : Pos} {wd : World} {K : Fg} {mg : Str → Option Value} {α β : List Addr} {F F1 H H1 : Hp} {S : Sto}
theorem pd_uget (hu : X.A.units + 10 < cLine) (ha : PD X W a ra) (hb : PD X W b rb) (hs : NoSl b := by intro _ _; rfl) : PD X W (.Subscript a b pos) (rBin gGetU ra rb) := by
  obtain ⟨ta, pa, sa⟩ := ha.ex
  obtain ⟨tb, pb, sb⟩ := hb.ex
  refine ⟨_, pe_uget hu pa pb hs, sa.bin sb fun α F H S x y d e z Q hr hx hy hz q => ?_⟩
  unfold gGetU at hz
  split at hz
  · rename_i v e1
    cases hz
    obtain ⟨l, o, rfl, h1, _, h3⟩ := hr.uget hx hy e1
    obtain ⟨v', rfl, h4⟩ := h3 z rfl
    exact ⟨l, v', rfl, h1, fin_now hr h4 q⟩
  · cases hz
theorem psd_putU {o i value : Expr} {pos' : Pos} {ro ri rv : RE} (hu : X.A.units + 10 < cLine) (ho : PD X W o ro) (hi : PD X W i ri) (hv : PD X W value rv) (hs : swapsWith value (some (.Subscript o i pos')) pos.line X.env = pure false := by rfl) : PSd X W (.Assign [.Subscript o i pos'] value pos) (sPutU ro ri rv) := by
  obtain ⟨to, po, so⟩ := ho.ex
  obtain ⟨ti, pi, si⟩ := hi.ex
  obtain ⟨tv, pv', sv⟩ := hv.ex
  refine ⟨_, ps_uput hu po pi pv' hs, fun α F σ H δ S E hr hs h => ?_⟩
  refine sv α F σ H δ S _ hr hs (wpS.out h hs fun z S1 _ v H1 β F1 r1 q1 v1 h1 => ?_)
  have hs1 := hs.mono (β := β) q1.sub
  refine so (α ++ β) F1 σ H1 δ S1 _ r1 hs1 (wpS.out h1 hs1 fun x S2 _ xv H2 γ F2 r2 q2 v2 h2 => ?_)
  have hs2 := hs1.mono (β := γ) q2.sub
  refine si (α ++ β ++ γ) F2 σ H2 δ S2 _ r2 hs2 (wpS.out h2 hs2 fun y S3 _ yv H3 ε F3 r3 q3 v3 h3 => ?_)
  have hs3 := hs2.mono (β := ε) q3.sub
  split at h3
  · rename_i n
    split at h3
    · rename_i u e1
      split at h3
      · rename_i u' e2
        have v2' := v2.mono (β := ε) q3.sub
        have vz := (v1.mono (β := γ) q2.sub).mono (β := ε) q3.sub
        cases v2' with
        | @ptr _ ad ea =>
          obtain ⟨o1, _⟩ := r3.own _ _ _ ea e1
          unfold putU at e2
          cases u with
          | dct kvs =>
            dsimp only at e2
            split at e2
            · rename_i hk
              split at e2
              · rename_i hl
                cases e2
                obtain ⟨k, rfl⟩ := isKey_kD hk
                obtain ⟨ws, o2, o3⟩ := Own.dctK.mp o1
                have := kD_DV v3
                subst this
                obtain ⟨a1, a2⟩ := r3.setO (o := .dK (putK ws k v)) (d := .dct (putD kvs (kD k) z)) ea e1 rfl (Own.dctK.mpr ⟨_, upd_same, o3.put k vz⟩)
                exact ⟨_, _, rfl, .inl (.inl ⟨ws, k, o2, rfl, by rw [o3.length]; exact hl, rfl⟩), h3 _ _ _ _ a1 a2 (hs3.mono a2.sub)⟩
              · cases e2
            · split at e2
              · rename_i hc
                cases e2
                rw [Bool.and_eq_true] at hc
                obtain ⟨ds, nk, rfl, g1, g2⟩ := isKeyN_ex hc.2
                obtain ⟨b, rfl⟩ := DV.isRef v3
                have : kvs = [] := List.isEmpty_iff.mp hc.1
                subst this
                obtain ⟨ws, o2, o3⟩ := Own.dctK.mp o1
                cases o3
                obtain ⟨a1, a2⟩ := r3.setO (o := dN X.w ad (putV [] nk b v)) (d := .dcn [(.tup ds, z)]) ea e1 rfl ⟨_, upd_same, .cons g1 g2 v3 ⟨_, rfl⟩ vz .nil⟩
                exact ⟨_, _, rfl, .inr ⟨[], nk, b, .inr ⟨rfl, o2⟩, (fun _ h => nomatch h), rfl, v3.nk g1 r3.sub, g2, by decide, rfl⟩, h3 _ _ _ _ a1 a2 (hs3.mono a2.sub)⟩
              · cases e2
          | dcn kvs =>
            dsimp only at e2
            split at e2
            · rename_i hc
              cases e2
              rw [Bool.and_eq_true] at hc
              obtain ⟨ds, nk, rfl, g1, g2⟩ := isKeyN_ex hc.1
              obtain ⟨b, rfl⟩ := DV.isRef v3
              obtain ⟨xs, o2, o3⟩ := o1
              obtain ⟨a1, a2⟩ := r3.setO (o := dN X.w ad (putV xs nk b v)) (d := .dcn (putN kvs (.tup ds) z)) ea e1 rfl ⟨_, upd_same, o3.put g1 g2 v3 ⟨_, rfl⟩ vz⟩
              exact ⟨_, _, rfl, .inr ⟨xs, nk, b, .inl o2, o3.keys r3.sub, rfl, v3.nk g1 r3.sub, g2, by rw [o3.length]; exact of_decide_eq_true hc.2, rfl⟩, h3 _ _ _ _ a1 a2 (hs3.mono a2.sub)⟩
            · cases e2
          | _ => cases e2
      · exact h3.elim
    · exact h3.elim
  · exact h3.elim
end
end DL
set_option Elab.async false
set_option linter.all false
set_option maxRecDepth 100000
set_option maxHeartbeats 4000000
set_option autoImplicit false
/-! Data layer: dicts walked while they are locked. -/
namespace DL
open PySem PySem.Spec PyProof.Rows L2
/-! ### a locked dict of tuple keys -/
/-! ### by data -/
section
variable {wd : World} {K : Fg} {mg : Str → Option Value} {α β : List Addr} {F F1 H H1 : Hp} {S : Sto}
theorem KVs.at {ws : List (Key × V)} {kvs : List (D × D)} (h : KVs wd K mg F α ws kvs) : ∀ {i : Nat} {p : D × D}, kvs[i]? = some p → ∃ k v, ws[i]? = some (k, v) ∧ p.1 = kD k ∧ DV wd K mg F α v p.2 := by
  induction h with
  | nil => intro i p e; simp at e
  | cons h _ ih =>
    intro i p e
    cases i with
    | zero => simp at e; subst e; exact ⟨_, _, rfl, rfl, h⟩
    | succ i => simp at e; obtain ⟨k, v, e1, e2, e3⟩ := ih e; exact ⟨k, v, by simpa using e1, e2, e3⟩
theorem NVs.at {xs : List (NestedKey × Addr × V)} {kvs : List (D × D)} (h : NVs wd K mg F α xs kvs) : ∀ {i : Nat} {p : D × D}, kvs[i]? = some p → ∃ k b v, xs[i]? = some (k, b, v) ∧ DV wd K mg F α (.ref b) p.1 ∧ DV wd K mg F α v p.2 := by
  induction h with
  | nil => intro i p e; simp at e
  | cons h1 h2 h3 h4 h5 _ ih =>
    intro i p e
    cases i with
    | zero => simp at e; subst e; exact ⟨_, _, _, rfl, h3, h5⟩
    | succ i => simp at e; obtain ⟨k, b, v, e1, e2, e3⟩ := ih e; exact ⟨k, b, v, by simpa using e1, e2, e3⟩
theorem DV.key (k : Key) : DV wd K mg F α (kV k) (kD k) := by cases k <;> constructor
theorem Sub.at {F F' : Hp} {a : Addr} {u : HO} (s : Sub F F') (h : F a = some u) : F' a = some u := s _ _ h
end
end DL
set_option Elab.async false
set_option linter.all false
set_option maxRecDepth 100000
set_option maxHeartbeats 4000000
set_option autoImplicit false
/-! Data layer: a statement done while a dict is locked; what is never reached. -/
namespace DL
open PySem PySem.Spec PyProof.Rows L2
def isSq : HO → Prop
  | .tup _ => True
  | .lst _ => True
  | .frz _ (.tup _) => True
  | .frz _ (.lst _) => True
  | .ext _ => True
  | .xd _ => True
  | _ => False
/-- lists and tuples stay -/
def SubS (F F' : Hp) : Prop := ∀ a u, F a = some u → isSq u → F' a = some u
theorem SubS.t {F F' : Hp} (s : SubS F F') {a : Addr} {xs : List V} (h : Rd F a (.tup xs)) : Rd F' a (.tup xs) := h.imp (fun e => s _ _ e trivial) fun ⟨o, e⟩ => ⟨o, s _ _ e trivial⟩
end DL
set_option Elab.async false
set_option linter.all false
set_option maxRecDepth 100000
set_option maxHeartbeats 4000000
set_option autoImplicit false
/-! Data layer: order of data, sorting, the greatest and the least. -/
namespace DL
open PySem PySem.Spec PyProof.Rows L2
def notNone : PyData → Bool
  | .none => false
  | _ => true
/-- two data that may be compared -/
def twoD (S : Sto) (d e : D) : Option (PyData × PyData) := match toPy S (deref S d), toPy S (deref S e) with
  | some x, some y => if PySem.W.alike x y && (notNone x && decide (x.depth ≤ 40)) then some (x, y) else none
  | _, _ => none
def gLtU : Sto → D → D → Option D := fun S d e => match d, e with
  | .int i, .int j => some (.bl (decide (i < j)))
  | _, _ => (twoD S d e).map fun p => .bl (PySem.W.dataLt p.1 p.2)
def gLeU : Sto → D → D → Option D := fun S d e => match d, e with
  | .int i, .int j => some (.bl (decide (i ≤ j)))
  | _, _ => (twoD S d e).map fun p => .bl (!PySem.W.dataLt p.2 p.1)
def gGtU : Sto → D → D → Option D := fun S d e => match d, e with
  | .int i, .int j => some (.bl (decide (j < i)))
  | _, _ => (twoD S d e).map fun p => .bl (PySem.W.dataLt p.2 p.1)
def gGeU : Sto → D → D → Option D := fun S d e => match d, e with
  | .int i, .int j => some (.bl (decide (j ≤ i)))
  | _, _ => (twoD S d e).map fun p => .bl (!PySem.W.dataLt p.1 p.2)
def rCmp (K : Fg) (f : PyData → PyData → Bool) : R2 := fun x y H Q => ∃ d e, Dp K H x d ∧ Dp K H y e ∧ PySem.W.alike d e = true ∧ d ≠ .none ∧ d.depth ≤ 40 ∧ Q (.bl (f d e)) H
section
variable {X : Cx}
theorem op_ltU (hu : X.A.units + 64 < cLine) : OpR X (compareOp .Lt) (rCmp X.K PySem.W.dataLt) := by
  intro pins s σ H x y v u Q I rx ry h
  obtain ⟨d, e, hd, he, al, nn, dp, q⟩ := h
  obtain ⟨as, r1⟩ := Dp.reads I d x v hd rx
  obtain ⟨bs, r2⟩ := Dp.reads I e y u he ry
  exact PySem.W.lt_data r1 r2 al nn (by omega) ⟨.bl _, H, I, rfl, q⟩
theorem op_leU (hu : X.A.units + 64 < cLine) : OpR X (compareOp .LtE) (rCmp X.K fun d e => !PySem.W.dataLt e d) := by
  intro pins s σ H x y v u Q I rx ry h
  obtain ⟨d, e, hd, he, al, nn, dp, q⟩ := h
  obtain ⟨as, r1⟩ := Dp.reads I d x v hd rx
  obtain ⟨bs, r2⟩ := Dp.reads I e y u he ry
  exact PySem.W.le_data r1 r2 al nn (by omega) ⟨.bl _, H, I, rfl, q⟩
theorem op_gtU (hu : X.A.units + 64 < cLine) : OpR X (compareOp .Gt) (rCmp X.K fun d e => PySem.W.dataLt e d) := by
  intro pins s σ H x y v u Q I rx ry h
  obtain ⟨d, e, hd, he, al, nn, dp, q⟩ := h
  obtain ⟨as, r1⟩ := Dp.reads I d x v hd rx
  obtain ⟨bs, r2⟩ := Dp.reads I e y u he ry
  exact PySem.W.gt_data r1 r2 al nn (by omega) ⟨.bl _, H, I, rfl, q⟩
theorem op_geU (hu : X.A.units + 64 < cLine) : OpR X (compareOp .GtE) (rCmp X.K fun d e => !PySem.W.dataLt d e) := by
  intro pins s σ H x y v u Q I rx ry h
  obtain ⟨d, e, hd, he, al, nn, dp, q⟩ := h
  obtain ⟨as, r1⟩ := Dp.reads I d x v hd rx
  obtain ⟨bs, r2⟩ := Dp.reads I e y u he ry
  exact PySem.W.ge_data r1 r2 al nn (by omega) ⟨.bl _, H, I, rfl, q⟩
theorem alike_int (i j : Int) : PySem.W.alike (.int i) (.int j) = true := by simp [PySem.W.alike]
theorem depth_int (i : Int) : (PyData.int i).depth ≤ 40 := by simp [PyData.depth]
theorem cmpU {f : PyData → PyData → Bool} {g : Sto → D → D → Option D} {op : CmpOp} {h : Int → Int → Bool} (ho : OpR X (compareOp op) (rCmp X.K f)) (hi : ∀ i j, f (.int i) (.int j) = h i j)
    (hg : ∀ S d e z, g S d e = some z → (∃ i j, d = .int i ∧ e = .int j ∧ z = .bl (h i j)) ∨ ∃ p, twoD S d e = some p ∧ z = .bl (f p.1 p.2)) : OpG X (compareOp op) g := by
  refine ⟨_, ho, fun α F H S x y d e z Q hr hx hy hz q => ?_⟩
  rcases hg S d e z hz with ⟨i, j, rfl, rfl, rfl⟩ | ⟨p, h1, rfl⟩
  · cases hx; cases hy
    refine ⟨.int i, .int j, .int i, .int j, alike_int i j, by simp, depth_int i, ?_⟩
    rw [hi]
    exact fin_now hr (.bl _) q
  · unfold twoD at h1
    split at h1
    · rename_i x' y' e1 e2
      split at h1
      · rename_i hc
        cases h1
        rw [Bool.and_eq_true, Bool.and_eq_true] at hc
        exact ⟨x', y', hr.dp hx e1, hr.dp hy e2, hc.1, (by intro z; subst z; exact absurd hc.2.1 (by decide)), of_decide_eq_true hc.2.2, fin_now hr (.bl _) q⟩
      · cases h1
    · cases h1
theorem g_ltU (hu : X.A.units + 64 < cLine) : OpG X (compareOp .Lt) gLtU := cmpU (op_ltU hu) (h := fun i j => decide (i < j)) (fun i j => PySem.W.dataLt_int i j) fun S d e z hz => by
  unfold gLtU at hz
  split at hz
  · cases hz; exact .inl ⟨_, _, rfl, rfl, rfl⟩
  · obtain ⟨p, h1, h2⟩ := Option.map_eq_some_iff.mp hz
    exact .inr ⟨p, h1, h2.symm⟩
theorem g_gtU (hu : X.A.units + 64 < cLine) : OpG X (compareOp .Gt) gGtU := cmpU (op_gtU hu) (h := fun i j => decide (j < i)) (fun i j => PySem.W.dataLt_int j i) fun S d e z hz => by
  unfold gGtU at hz
  split at hz
  · cases hz; exact .inl ⟨_, _, rfl, rfl, rfl⟩
  · obtain ⟨p, h1, h2⟩ := Option.map_eq_some_iff.mp hz
    exact .inr ⟨p, h1, h2.symm⟩
theorem not_lt_le (i j : Int) : (!decide (j < i)) = decide (i ≤ j) := by
  by_cases h : j < i
  · rw [decide_eq_true h, decide_eq_false (by omega)]; rfl
  · rw [decide_eq_false h, decide_eq_true (by omega)]; rfl
theorem g_leU (hu : X.A.units + 64 < cLine) : OpG X (compareOp .LtE) gLeU := cmpU (op_leU hu) (h := fun i j => decide (i ≤ j)) (fun i j => by rw [PySem.W.dataLt_int]; exact not_lt_le i j) fun S d e z hz => by
  unfold gLeU at hz
  split at hz
  · cases hz; exact .inl ⟨_, _, rfl, rfl, rfl⟩
  · obtain ⟨p, h1, h2⟩ := Option.map_eq_some_iff.mp hz
    exact .inr ⟨p, h1, h2.symm⟩
theorem g_geU (hu : X.A.units + 64 < cLine) : OpG X (compareOp .GtE) gGeU := cmpU (op_geU hu) (h := fun i j => decide (j ≤ i)) (fun i j => by rw [PySem.W.dataLt_int]; exact not_lt_le j i) fun S d e z hz => by
  unfold gGeU at hz
  split at hz
  · cases hz; exact .inl ⟨_, _, rfl, rfl, rfl⟩
  · obtain ⟨p, h1, h2⟩ := Option.map_eq_some_iff.mp hz
    exact .inr ⟨p, h1, h2.symm⟩
end
/-! ### sorting -/
def tupFull : PyData → Bool
  | .tuple (_ :: _) => true
  | _ => false
def noTup : PyData → Bool
  | .none => false
  | .tuple _ => false
  | _ => true
def sortable (ps : List PyData) : Bool := (ps.all tupFull || ps.all noTup) && ((ps.all fun x => ps.all fun y => PySem.W.alike x y) && ps.all fun x => decide (x.depth ≤ 40))
def sortBy {A : Type} (xs : List A) (ps : List PyData) : List A := ((xs.zip ps).mergeSort (PySem.W.dataLe false (·.2))).map (·.1)
def sortD (S : Sto) (xs : List D) : Option (List D) := match toPys S xs with
  | some ps => if sortable ps && decide (xs.length ≤ sizeLine) then some (sortBy xs ps) else none
  | none => none
/-! ### the greatest and the least of numbers -/
def maxI : List Int → Option Int
  | [] => none
  | i :: r => some (r.foldl max i)
theorem foldl_max : ∀ (r : List Int) (i : Int), (r.foldl max i = i ∨ r.foldl max i ∈ r) ∧ i ≤ r.foldl max i ∧ ∀ y ∈ r, y ≤ r.foldl max i
  | [], i => ⟨.inl rfl, by simp, fun _ h => nomatch h⟩
  | a :: r, i => by
    obtain ⟨h1, h2, h3⟩ := foldl_max r (max i a)
    rw [List.foldl_cons]
    refine ⟨?_, by omega, fun y hy => ?_⟩
    · rcases h1 with h1 | h1
      · rcases Int.le_total i a with h | h
        · right; rw [h1, Int.max_eq_right h]; exact List.mem_cons_self
        · left; rw [h1, Int.max_eq_left h]
      · exact .inr (List.mem_cons_of_mem _ h1)
    · rcases List.mem_cons.mp hy with rfl | hy
      · omega
      · exact h3 y hy
theorem maxI_of {ns : List Int} {m : Int} (h1 : m ∈ ns) (h2 : ∀ y ∈ ns, y ≤ m) : maxI ns = some m := by
  cases ns with
  | nil => cases h1
  | cons i r =>
    obtain ⟨g1, g2, g3⟩ := foldl_max r i
    have a : m ≤ r.foldl max i := by
      rcases List.mem_cons.mp h1 with rfl | h
      · exact g2
      · exact g3 m h
    have b : r.foldl max i ≤ m := by
      rcases g1 with g | g
      · rw [g]; exact h2 i List.mem_cons_self
      · exact h2 _ (List.mem_cons_of_mem _ g)
    exact congrArg some (Int.le_antisymm b a)
def gMax : Sto → List D → Option D := fun S ds => match ds with
  | [d] => (match deref S d with
    | .lst xs => (asInts xs).bind fun ns => (maxI ns).map .int
    | _ => none)
  | [.int i, .int j] => some (.int (if j > i then j else i))
  | _ => none
section
variable {X : Cx}
theorem b_max (hc : X.calm = true) : BiG X (.builtin "max") gMax := by
  refine ⟨_, (cr_max hc).or (call_max2 hc), fun α F H S xs ds z Q hr hv hz q => ?_⟩
  unfold gMax at hz
  split at hz
  · cases hv with
    | cons h1 h2 =>
      cases h2
      split at hz
      · rename_i ys e1
        obtain ⟨ns, e2, e3⟩ := Option.bind_eq_some_iff.mp hz
        obtain ⟨m, e4, rfl⟩ := Option.map_eq_some_iff.mp e3
        obtain ⟨l, us, rfl, a1, a2⟩ := hr.viewL h1 e1
        have := asInts_eq e2
        subst this
        have := DVs.ints a2
        subst this
        refine .inl ⟨l, ns, rfl, a1, ?_, fun m' g1 g2 => ?_⟩
        · cases ns with
          | nil => cases e4
          | cons _ _ => exact Nat.succ_pos _
        · rw [maxI_of g1 g2] at e4
          cases e4
          exact fin_now hr (.int _) q
      · cases hz
  · cases hz
    cases hv with
    | cons h1 h2 => cases h2 with
      | cons h2 h3 => cases h1; cases h2; cases h3; exact .inr ⟨_, _, rfl, fin_now hr (.int _) q⟩
  · cases hz
end
end DL
set_option Elab.async false
set_option linter.all false
set_option maxRecDepth 100000
set_option maxHeartbeats 4000000
set_option autoImplicit false
/-! Data layer: dict() of pairs. -/
set_option Elab.async false
set_option linter.all false
set_option maxRecDepth 100000
set_option maxHeartbeats 4000000
set_option autoImplicit false
/-! Data layer: sorted(d.items()). -/
namespace DL
open PySem PySem.Spec PyProof.Rows L2
/-- tuples that are laid, one after the other, for good -/
inductive Grow : Hp → List Addr → List (V × V) → Hp → Prop
  | nil {H : Hp} : Grow H [] [] H
  | cons {H H2 : Hp} {T : Addr} {Ts : List Addr} {p : V × V} {ps : List (V × V)} {o : Obj} : H T = none → o.dict = none → Grow (upd H T (.frz o (.tup [p.1, p.2]))) Ts ps H2 → Grow H (T :: Ts) (p :: ps) H2
theorem Grow.keeps {H H2 : Hp} {Ts : List Addr} {ps : List (V × V)} (g : Grow H Ts ps H2) : ∀ {b : Addr} {o : HO}, H b = some o → H2 b = some o := by
  induction g with
  | nil => exact fun e => e
  | cons h _ _ ih => exact fun e => ih (upd_some h e)
/-- the pairs' data -/
inductive DpPs (K : Fg) (H : Hp) : List (V × V) → List PyData → Prop
  | nil : DpPs K H [] []
  | cons {p : V × V} {x y : PyData} {prs : List (V × V)} {ps : List PyData} : Dp K H p.1 x → Dp K H p.2 y → DpPs K H prs ps → DpPs K H (p :: prs) (.tuple [x, y] :: ps)
theorem DpPs.length {K : Fg} {H : Hp} {prs : List (V × V)} {ps : List PyData} (h : DpPs K H prs ps) : prs.length = ps.length := by
  induction h with
  | nil => rfl
  | cons _ _ _ ih => rw [List.length_cons, List.length_cons, ih]
/-! ### by data -/
/-- sorted(d.items()) -/
def itemsOf : D → Option (List D)
  | .dct kvs => some (kvs.map fun p => .tup [p.1, p.2])
  | .dcn kvs => some (kvs.map fun p => .tup [p.1, p.2])
  | _ => none
def rSortItems (a : RE) : RE := fun δ S => (a δ S).bind fun d S1 => .lift (((itemsOf (deref S1 d)).bind (sortD S1)).map .lst) S1
section
open PySem.W
variable {wd : World} {K : Fg} {mg : Str → Option Value} {α β : List Addr} {F F1 H H1 : Hp} {S : Sto}
theorem Grow.rel : ∀ {Ts : List Addr} {prs : List (V × V)} {H H2 : Hp} {F : Hp}, Grow H Ts prs H2 → Rel wd K mg α F H S →
    ∃ F2, Rel wd K mg (α ++ []) F2 H2 S ∧ Stp α F H [] F2 H2 ∧ EachIs (fun T (p : V × V) => PlT K F2 T [p.1, p.2]) Ts prs
  | _, _, _, _, F, .nil, hr => ⟨F, by rw [List.append_nil]; exact hr, Stp.refl, .nil⟩
  | T :: Ts, p :: ps, H, H2, F, .cons (o := o) hn hd g, hr => by
    obtain ⟨r1, s1⟩ := hr.newF (o := .frz o (.tup [p.1, p.2])) hn
    rw [List.append_nil] at r1
    obtain ⟨F2, r2, s2, e2⟩ := Grow.rel g r1
    have s1' : Stp (α ++ []) (upd F T (.frz o (.tup [p.1, p.2]))) (upd H T (.frz o (.tup [p.1, p.2]))) [] F2 H2 := by rw [List.append_nil]; exact s2
    exact ⟨F2, r2, s1.trans s1', .cons (s2.sub.plT (PlT.new hd)) e2⟩
end
end DL
set_option Elab.async false
set_option linter.all false
set_option maxRecDepth 100000
set_option maxHeartbeats 4000000
set_option autoImplicit false
/-! Data layer: sorted(set(texts)). -/
namespace DL
open PySem PySem.Spec PyProof.Rows L2
def txV : Value → Str
  | .str x _ => x
  | _ => ⟨#[]⟩
def isTxV : Value → Bool
  | .str _ _ => true
  | _ => false
open PySem.Froz in
/-- the set of texts at a -/
def TxR (P : Program) (w : World) (h : Heap) (a : Addr) (l : List Str) : Prop :=
  ∃ D : SD, h.get? a = some (sObj "set" D) ∧ TxOk P w D l ∧ Ris D.2.2.place.toList ∧ (w.params.followText "set-order" = true ∨ D.2.2.led = true) ∧ (D.1.toList.map fun e => txV e.2).Perm l ∧ (∀ e ∈ D.1.toList, isTxV e.2 = true) ∧ l.Nodup
section
open PySem.Froz
variable {P : Program} {w : World} {A : Around} {E : Value → Shared → Prop} {s : Shared}
theorem TxR.keep {h h' : Heap} {a : Addr} {l : List Str} (R : TxR P w h a l) (k : ∀ o, h.get? a = some o → h'.get? a = some o) : TxR P w h' a l := by
  obtain ⟨D, ho, q⟩ := R
  exact ⟨D, k _ ho, q⟩
end
end DL
set_option Elab.async false
set_option linter.all false
set_option maxRecDepth 100000
set_option maxHeartbeats 4000000
set_option autoImplicit false
/-! Data layer: sorted(set(texts)), its end. -/
set_option Elab.async false
set_option linter.all false
set_option maxRecDepth 100000
set_option maxHeartbeats 4000000
set_option autoImplicit false
/-! Data layer: slices with steps. -/
namespace DL
open PySem PySem.Spec PyProof.Rows L2
def idxS (n : Nat) (lo hi : Option Int) (k : Int) : List Nat := sliceRange (sliceBounds lo hi (some k) n).1 (sliceBounds lo hi (some k) n).2.1 (sliceBounds lo hi (some k) n).2.2
def stepS {A : Type} (xs : List A) (lo hi : Option Int) (k : Int) : List A := (idxS xs.length lo hi k).filterMap fun (i : Nat) => xs[i]?
theorem pick_step (its : List Value) (lo hi : Option Int) (k : Int) : slicePick its.toArray lo hi (some k) = (stepS its lo hi k).toArray := by
  unfold slicePick stepS idxS
  simp
def SlRs (X : Cx) (r : V → Option Int → Option Int → Int → Hp → VK → Prop) : Prop :=
  ∀ (pins : List (Addr × Obj)) (s : Shared) (σ : L2.St) (H : Hp) (x : V) (v vl vu vk : Value) (lo hi : Option Int) (k : Int) (sl : Addr) (Q : VK), Inv X pins σ H s → RelV x v → s.heap.IsSliceOf sl vl vu vk → IsPart vl lo → IsPart vu hi → IsPart vk (some k) → r x lo hi k H Q →
    ∃ T id, typeLookup (.type T) "__getitem__" = pure (some (.builtin id)) ∧ s.TypeIs v T ∧ wpAny (model X.prog X.w) X.A (getItem v (.ref sl)) (EP X pins σ Q) X.xe s
def tSlS (r : V → Option Int → Option Int → Int → Hp → VK → Prop) (te : TE) (tl th tk : TO) : TE := fun σ H Q => te σ H fun x H1 => tl σ H1 fun l H2 => th σ H2 fun u H3 => tk σ H3 fun k H4 => ∃ k', k = some k' ∧ r x l u k' H4 Q
section
variable {X : Cx} {e st : Expr} {te : TE} {lo hi : Option Expr} {tl th tk : TO} {pos p2 : Pos}
theorem pe_sliceS {r : V → Option Int → Option Int → Int → Hp → VK → Prop} (hr : SlRs X r) (he : PE X e te) (hl : PO X lo tl) (hu : PO X hi th) (hk : PO X (some st) tk) : PE X (.Subscript e (.Slice lo hi (some st) p2) pos) (tSlS r te tl th tk) := by
  refine ⟨fun pins s σ H Q I h => ?_⟩
  refine Subscript_ (thn (he.run pins s σ H _ I h) fun v s1 ⟨x, H1, I1, r1, q1⟩ => ?_)
  refine wpAny_Slice (thn (hl.run pins s1 σ H1 _ I1 q1) fun vl s2 ⟨l, H2, I2, pl, q2⟩ => thn (hu.run pins s2 σ H2 _ I2 q2) fun vu s3 ⟨u, H3, I3, pu, q3⟩ => thn (hk.run pins s3 σ H3 _ I3 q3) fun vk s4 ⟨k, H4, I4, pk, k', ek, q4⟩ => ?_)
  subst ek
  have I5 : Inv X pins σ H4 { s4 with heap := s4.heap.push { cls := .type "slice", data := .fields #[vl, vu, vk] } } := I4.kept (t' := s4.toks) fun b ob q => Heap.get?_push_of_some _ q
  obtain ⟨T, id, hT, ht, hg⟩ := hr pins { s4 with heap := s4.heap.push { cls := .type "slice", data := .fields #[vl, vu, vk] } } σ H4 x v vl vu vk l u k' s4.heap.objs.size Q I5 r1 (Heap.IsSliceOf.new ..) pl pu pk q4
  show wpAny (model X.prog X.w) X.A (subscriptTail e (.Slice lo hi (some st) p2) v (.ref s4.heap.objs.size)) (EP X pins σ Q) X.xe { s4 with heap := s4.heap.push { cls := .type "slice", data := .fields #[vl, vu, vk] } }
  exact tail_any (ops := [v, .ref s4.heap.objs.size]) ht hT hg (by with_unfolding_all rfl)
theorem SlRs.or {r r' : V → Option Int → Option Int → Int → Hp → VK → Prop} (h : SlRs X r) (h' : SlRs X r') : SlRs X (fun x lo hi k H Q => r x lo hi k H Q ∨ r' x lo hi k H Q) := by
  intro pins s σ H x v vl vu vk lo hi k sl Q I rx hs pl pu pk q
  rcases q with q | q
  · exact h pins s σ H x v vl vu vk lo hi k sl Q I rx hs pl pu pk q
  · exact h' pins s σ H x v vl vu vk lo hi k sl Q I rx hs pl pu pk q
theorem vals_step {us : List V} {vs : List Value} (h : Vals us vs) (is : List Nat) : Vals (is.filterMap fun (i : Nat) => us[i]?) (is.filterMap fun (i : Nat) => vs[i]?) := by
  induction is with
  | nil => exact .nil
  | cons i is ih =>
    rw [List.filterMap_cons, List.filterMap_cons]
    cases e : us[i]? with
    | none =>
      have : vs[i]? = none := by rw [List.getElem?_eq_none_iff] at e ⊢; rw [← h.length]; exact e
      rw [this]
      exact ih
    | some u =>
      obtain ⟨v, e2, r⟩ := h.get e
      rw [e2]
      exact .cons r ih
def rSlLs (K : PySem.W.Frag) : V → Option Int → Option Int → Int → Hp → VK → Prop := fun x lo hi k H Q => ∃ a xs, x = .ref a ∧ SqL K H a xs ∧ k ≠ 0 ∧ (stepS xs lo hi k).length ≤ sizeLine ∧ ∀ p, H p = none → Q (.ref p) (upd H p (.lst (stepS xs lo hi k)))
theorem sl_listS : SlRs X (rSlLs X.K) := by
  intro pins s σ H x v vl vu vk lo hi k sl Q I rx hs pl pu pk h
  obtain ⟨a, xs, rfl, hx, h0, hz2, q⟩ := h
  cases rx
  obtain ⟨its, r, ht, hz⟩ := I.list hx
  have hlen := r.length
  refine ⟨"list", _, slot_list_getitem.lookup, ht.isList.typeIs, ?_⟩
  refine wpAny_getItem_list_slice ht.isList hs pl pu pk (fun z => h0 (Option.some.inj z)) ?_ (by rw [List.size_toArray] <;> omega)
  rw [pick_step]
  refine ⟨.ref s.heap.objs.size, _, I.laid (t' := s.toks) (o := .lst (stepS xs lo hi k)) (fun b ob q => Heap.get?_push_of_some _ q) (Nat.le_refl _) ?_, rfl, q _ (I.hok.fresh (Nat.le_refl _))⟩
  refine ⟨hz2, stepS its lo hi k, 0, ?_, Heap.get?_push_size _ rfl⟩
  unfold stepS
  rw [hlen]
  exact vals_step r _
end
section
variable {prog : Program} {w : World} {A : Around} {E : Value → Shared → Prop} {s : Shared}
theorem places_rev (n : Nat) : Builtin.Slice.slicePlaces ((n : Int) - 1) (-1) (-1) = n := by
  unfold Builtin.Slice.slicePlaces
  have h1 : ¬ ((-1 : Int) > 0) := by decide
  simp only [h1, if_false]
  by_cases h : (n : Int) - 1 > -1
  · rw [if_pos h]
    have e : ((n : Int) - 1 - -1 - 1) / (- -1) + 1 = n := by
      rw [show (- -1 : Int) = 1 by decide, Int.ediv_one]
      omega
    rw [e, Int.toNat_natCast]
  · rw [if_neg h]
    have e : n = 0 := by omega
    subst e
    rfl
theorem rev_places (items : Array Value) : (List.range items.size).filterMap (fun (m : Nat) => items[((items.size : Int) - 1 + (m : Int) * -1).toNat]?) = items.toList.reverse := by
  have h1 : (List.range items.size).filterMap (fun (m : Nat) => items[((items.size : Int) - 1 + (m : Int) * -1).toNat]?) = ((List.range items.size).map fun k => items.size - 1 - k).filterMap (items[·]?) := by
    rw [List.filterMap_map]
    generalize hn : List.range items.size = l
    have hl : ∀ m ∈ l, m < items.size := fun m hm => List.mem_range.mp (hn ▸ hm)
    clear hn
    induction l with
    | nil => rfl
    | cons m l ih =>
      have hm := hl m List.mem_cons_self
      have e : ((items.size : Int) - 1 + (m : Int) * -1).toNat = items.size - 1 - m := by omega
      rw [List.filterMap_cons, List.filterMap_cons, ih fun z hz => hl z (List.mem_cons_of_mem _ hz), e]
      rfl
  rw [h1, PySem.W.krv_range, List.filterMap_reverse, PySem.W.krv_all]
open HT in
theorem getItem_tuple_rev {t sl : Addr} {items : Array Value} {vk : Value} {Q : Value → Shared → Prop} (ht : IsTup s.heap t items) (hs : s.heap.IsSliceOf sl .none .none vk) (pk : IsPart vk (some (-1)))
    (h : Q (.ref s.heap.objs.size) { s with heap := s.heap.push { cls := .type "tuple", data := .seq items.toList.reverse.toArray } })
    (hsz : items.size ≤ sizeLine) : wpAny (model prog w) A (getItem (.ref t) (.ref sl)) Q E s := by
  have htake : sizeOk (.seq items.toList.reverse.toArray) := by
    show items.toList.reverse.toArray.size ≤ sizeLine
    rw [List.size_toArray, List.length_reverse, Array.length_toList]
    exact hsz
  obtain ⟨os, hos, hcs, hds⟩ := id hs
  have hTs : s.TypeIs (.ref sl) "slice" := ⟨os, hos, hcs⟩
  unfold getItem
  try with_reducible refine wpAny_holding ?_
  first | refine wpAny_bind (wpAny_pure ?_) | skip
  refine wpAny_bind (wpAny_sequenceKey ht.typeIs (by decide) ?_)
  refine wpAny_bind (wpAny_callSpecial?_slot (name := Str.ofString "__getitem__") ht.typeIs PyProof.Rows.slot_tuple_getitem
    (wpAny_call_entry PyProof.Rows.slot_tuple_getitem ht.typeIs entry_tuple_getitem ?_ (args_tuple_getitem _ _)))
  show wpAny _ _ (Builtin.Tuple.tupleItemsOf (.ref t) >>= _) _ _ s
  refine wpAny_bind (tupleItemsOf_ ht ?_)
  refine wpAny_bind (wpAny_typeOf hTs ?_)
  rw [if_pos (by decide)]
  have ap : ∀ {R : Int × Int × Nat → Shared → Prop}, R ((items.size : Int) - 1, -1, items.size) s → wpAny (model prog w) A.in1 (Builtin.Slice.sliceApplied (.ref sl) (pure (items.size : Int))) R E s := by
    intro R hR
    unfold Builtin.Slice.sliceApplied Builtin.Slice.sliceFields
    refine wpAny_bind (wpAny_bind (wpAny_field hos hds (x := .none) rfl (wpAny_bind (wpAny_field hos hds (x := .none) rfl (wpAny_bind (wpAny_field hos hds (x := vk) rfl (wpAny_pure ?_)))))))
    refine wpAny_bind (slicePart_ pk ?_)
    show wpAny _ _ (if ((-1 : Int) == 0) = true then _ else _) _ _ s
    rw [if_neg (by decide)]
    refine wpAny_bind (slicePart_none (wpAny_bind (slicePart_none (wpAny_bind (wpAny_pure ?_)))))
    show wpAny _ _ (pure ((items.size : Int) - 1, (-1 : Int), Builtin.Slice.slicePlaces ((items.size : Int) - 1) (-1) (-1))) _ _ s
    rw [places_rev]
    exact wpAny_pure hR
  refine wpAny_bind (ap ?_)
  have hno : ¬ ((((items.size : Int) - 1) == 0 && (-1 : Int) == 1 && items.size == items.size) = true) := by
    intro q
    rw [Bool.and_eq_true, Bool.and_eq_true] at q
    exact absurd q.1.2 (by decide)
  show wpAny _ _ (if (((items.size : Int) - 1) == 0 && (-1 : Int) == 1 && items.size == items.size) = true then _ else _) _ _ s
  rw [if_neg hno, rev_places]
  first
    | exact wpAny_bind (m := Builtin.Tuple.tupleExact _) (wpAny_newObj_type (wpAny_pure ⟨_, rfl, wpAny_pure h⟩) htake)
    | exact wpAny_bind (m := Builtin.Tuple.tupleExact _) (wpAny_newObj_type (wpAny_bind (wpAny_pure (wpAny_pure ⟨_, rfl, wpAny_pure h⟩))) htake)
    | exact wpAny_bind (wpAny_bind (m := Builtin.Tuple.tupleExact _) (wpAny_newObj_type (wpAny_pure (wpAny_pure ⟨_, rfl, wpAny_pure h⟩)) htake))
    | exact wpAny_bind (wpAny_bind (m := Builtin.Tuple.tupleExact _) (wpAny_newObj_type (wpAny_pure ⟨_, rfl, wpAny_pure h⟩) htake))
end
section
variable {X : Cx}
def rSlTs (K : PySem.W.Frag) : V → Option Int → Option Int → Int → Hp → VK → Prop := fun x lo hi k H Q => ∃ a xs, x = .ref a ∧ SqT K H a xs ∧ lo = none ∧ hi = none ∧ k = -1 ∧ TLays H xs.reverse Q
theorem sl_tupS : SlRs X (rSlTs X.K) := by
  intro pins s σ H x v vl vu vk lo hi k sl Q I rx hs pl pu pk h
  obtain ⟨a, xs, rfl, hx, rfl, rfl, rfl, q⟩ := h
  cases rx
  obtain ⟨its, r, ht, hz⟩ := I.tuple hx
  cases pl
  cases pu
  refine ⟨"tuple", _, PyProof.Rows.slot_tuple_getitem.lookup, ht.typeIs, ?_⟩
  refine getItem_tuple_rev ht hs pk ?_ (by rw [List.size_toArray, ← r.length]; exact hz)
  have rr : Vals xs.reverse its.reverse := r.reverse
  exact ⟨.ref s.heap.objs.size, _, I.laid (t' := s.toks) (o := .frz (tupObj its.reverse.toArray) (.tup xs.reverse)) (fun b ob q => Heap.get?_push_of_some _ q) (Nat.le_refl _) (tup_frz (by rw [List.length_reverse]; exact hz) rr), rfl, q _ (I.hok.fresh (Nat.le_refl _)) _ rfl⟩
end
/-! ### by data -/
def rStep (a : RE) (l h k : RO) : RE := fun δ S => (a δ S).bind fun d S1 => (l δ S1).bind fun i S2 => (h δ S2).bind fun j S3 => (k δ S3).bind fun z S4 => match z with
  | some n => (match deref S4 d with
    | .lst xs => if n ≠ 0 ∧ (stepS xs i j n).length ≤ sizeLine then .ok (.lst (stepS xs i j n)) S4 else .stuck
    | .tup xs => if i = none ∧ j = none ∧ n = -1 then .ok (.tup xs.reverse) S4 else .stuck
    | _ => .stuck)
  | none => .stuck
section
variable {X : Cx} {W : WX} {a st : Expr} {ra : RE} {pos p2 : Pos} {lo hi : Option Expr} {ol oh ok : RO} {wd : World} {K : Fg} {mg : Str → Option Value} {α : List Addr} {F : Hp}
theorem step_DVs {us : List V} {xs : List D} (h : DVs wd K mg F α us xs) (is : List Nat) : DVs wd K mg F α (is.filterMap fun (i : Nat) => us[i]?) (is.filterMap fun (i : Nat) => xs[i]?) := by
  induction is with
  | nil => exact .nil
  | cons i is ih =>
    rw [List.filterMap_cons, List.filterMap_cons]
    cases e : xs[i]? with
    | none =>
      have : us[i]? = none := by rw [List.getElem?_eq_none_iff] at e ⊢; rw [h.length]; exact e
      rw [this]
      exact ih
    | some u =>
      obtain ⟨v, e2, r⟩ := h.get e
      rw [e2]
      exact .cons r ih
theorem pd_step (ha : PD X W a ra) (hl : POd X W lo ol) (hh : POd X W hi oh) (hk : POd X W (some st) ok) : PD X W (.Subscript a (.Slice lo hi (some st) p2) pos) (rStep ra ol oh ok) := by
  obtain ⟨ta, pa, sa⟩ := ha.ex
  obtain ⟨tl, pl, sl⟩ := hl.ex
  obtain ⟨th, ph, sh⟩ := hh.ex
  obtain ⟨tk, pk, sk⟩ := hk.ex
  refine ⟨_, pe_sliceS (sl_listS.or sl_tupS) pa pl ph pk, fun α F σ H δ S Q hr hs h => ?_⟩
  refine sa α F σ H δ S _ hr hs (wp.bind h fun d S1 _ x H1 β F1 r1 q1 v1 h1 => ?_)
  refine sl (α ++ β) F1 σ H1 δ S1 _ r1 (hs.mono q1.sub) (wp.bind h1 fun i S2 _ i' H2 γ F2 r2 q2 v2 h2 => ?_)
  have v2 : i' = i := v2
  subst v2
  refine sh (α ++ β ++ γ) F2 σ H2 δ S2 _ r2 ((hs.mono q1.sub).mono q2.sub) (wp.bind h2 fun j S3 _ j' H3 ε F3 r3 q3 v3 h3 => ?_)
  have v3 : j' = j := v3
  subst v3
  refine sk (α ++ β ++ γ ++ ε) F3 σ H3 δ S3 _ r3 (((hs.mono q1.sub).mono q2.sub).mono q3.sub) (wp.bind h3 fun k S4 _ k' H4 ζ F4 r4 q4 v4 h4 => ?_)
  have v4 : k' = k := v4
  subst v4
  have vx := ((v1.mono (β := γ) q2.sub).mono (β := ε) q3.sub).mono (β := ζ) q4.sub
  cases k' with
  | none => exact h4.elim
  | some n =>
  dsimp only at h4
  split at h4
  · rename_i xs e1
    split at h4
    · rename_i hc
      obtain ⟨l, us, rfl, a1, a2⟩ := r4.viewL vx e1
      have el : (stepS us i' j' n).length = (stepS xs i' j' n).length := by
        unfold stepS
        rw [a2.length]
        exact (step_DVs a2 _).length
      refine ⟨n, rfl, .inl ⟨l, us, rfl, a1, hc.1, by rw [el]; exact hc.2, fun p hp => ?_⟩⟩
      have dv : DVs X.w X.K X.mg F4 (α ++ β ++ γ ++ ε ++ ζ) (stepS us i' j' n) (stepS xs i' j' n) := by
        unfold stepS
        rw [a2.length]
        exact step_DVs a2 _
      obtain ⟨c1, c2, c3⟩ := r4.lst dv hp
      exact h4 _ _ _ _ c1 c2 c3
    · exact h4.elim
  · rename_i xs e1
    split at h4
    · rename_i hc
      obtain ⟨g1, g2, g3⟩ := hc
      obtain ⟨l, us, rfl, a1, a2⟩ := r4.viewT vx e1
      refine ⟨n, rfl, .inr ⟨l, us, rfl, a1, g1, g2, g3, fun p hp o ho => ?_⟩⟩
      obtain ⟨c1, c2, c3⟩ := r4.tup a2.reverse hp ho
      exact h4 _ _ _ _ c1 c2 c3
    · exact h4.elim
  · exact h4.elim
end
end DL
set_option Elab.async false
set_option linter.all false
set_option maxRecDepth 100000
set_option maxHeartbeats 4000000
set_option autoImplicit false
/-! Data layer: sorted(set(texts)), zip of tuples, calls of defs that a name holds. -/
namespace DL
open PySem PySem.Spec PyProof.Rows L2
/-! ### sorted(set(texts)) -/
section
variable {X : Cx} {W : WX} {a b c e tg : Expr} {es rest : List Expr} {ra rb rc : RE} {rs : RA} {pos p p2 pos2 : Pos}
/-! ### zip of two lists, of two tuples -/
def rZipA (a : RA) : RA := fun δ S => (a δ S).bind fun xs S1 => match xs with
  | [.lst ds, .lst es] => .ok (zipD ds es) S1
  | [.tup ds, .tup es] => .ok (zipD ds es) S1
  | _ => .stuck
end
section
variable {wd : World} {K : Fg} {mg : Str → Option Value} {α : List Addr} {F H : Hp} {S : Sto}
theorem it_zipT {l m : Addr} {us ws : List V} {ds es : List D} (h : SqT K F l us) (hv : DVs wd K mg F α us ds) (g : SqT K F m ws) (gv : DVs wd K mg F α ws es) : ItOk wd K mg F α (RZ.ItzT K l m) (zipD ds es) where
  go := fun F' H' i a b hi => by
    rw [zipD_len] at hi
    obtain ⟨v, e1, _⟩ := hv.get (List.getElem?_eq_getElem (by omega : i < ds.length))
    obtain ⟨u, e2, _⟩ := gv.get (List.getElem?_eq_getElem (by omega : i < es.length))
    exact ⟨us, ws, v, u, (a.trans b).sqT h, (a.trans b).sqT g, e1, e2⟩
  stop := fun F' H' a b => ⟨us, ws, (a.trans b).sqT h, (a.trans b).sqT g, by rw [hv.length, gv.length, zipD_len]; omega⟩
  yld := fun F' H' H2 i x d a b hd ⟨T, y, y2, e1, e2, e3, e4, e5⟩ => by
    have f1 := e4 us ((a.trans b).sqT h)
    have f2 := e5 ws ((a.trans b).sqT g)
    obtain ⟨p, q, e6, e7, rfl⟩ := zipD_get hd
    obtain ⟨v, e8, e9⟩ := hv.get e6
    rw [f1] at e8; cases e8
    obtain ⟨v2, e10, e11⟩ := gv.get e7
    rw [f2] at e10; cases e10
    subst e1
    have nF : F' T = none := by
      cases z : F' T with
      | none => rfl
      | some u => rw [b _ _ z] at e2; cases e2
    have sb := a.trans (Sub.new (o := .tup [y, y2]) nF)
    refine .inr ⟨T, _, e2, e3, .tux (SqT.of upd_same) (.cons ?_ (.cons ?_ .nil))⟩
    · have := e9.mono (β := []) sb
      rw [List.append_nil] at this; exact this
    · have := e11.mono (β := []) sb
      rw [List.append_nil] at this; exact this
end
section
variable {X : Cx} {W : WX} {a b c e tg : Expr} {es rest : List Expr} {ra rb rc : RE} {rs : RA} {pos p p2 pos2 : Pos}
theorem pid_zipA {elts : List Expr} {kk : Nat} {tpos : Pos} (hm : X.mg "zip" = none) (ha : PDs X W [a, b] rs) (hg : Gl X "zip" := by rfl) (hs : starEach [a, b] X.env = (false, eval a X.env) :: starEach [b] X.env := by rfl) (hpl : (backTo pos (starEach [b] X.env)).any (·.1) = false := by rfl) : PId X W (.Tuple elts kk tpos) (.Call (.Name "zip" p) [a, b] [] pos) (rZipA rs) := by
  obtain ⟨t, p1, s1⟩ := ha.ex
  refine ⟨_, RZ.pi_zipA hg hm p1 hs hpl, fun α F σ H δ S Q hr hs h => ?_⟩
  refine s1 α F σ H δ S _ hr hs (wp.bind h fun ds S1 e1 xs H1 β F1 r1 q1 v1 h1 => ?_)
  have hl := ha.len _ _ _ _ e1
  match ds, hl with
  | [d, d'], _ =>
    cases v1 with
    | cons v1 vn =>
      cases vn with
      | cons v2 vn =>
        cases vn
        cases d with
        | lst ys =>
          cases d' with
          | lst zs =>
            cases v1 with
            | lst a1 a2 => cases v2 with
              | lst b1 b2 => exact ⟨_, _, _, _, rfl, .inl ⟨r1.sub.sqL a1, r1.sub.sqL b1, h1.now r1 (it_zip a1 a2 b1 b2)⟩⟩
          | _ => exact h1.elim
        | tup ys =>
          cases d' with
          | tup zs =>
            cases v1 with
            | tup a1 a2 => cases v2 with
              | tup b1 b2 => exact ⟨_, _, _, _, rfl, .inr ⟨r1.sub.sqT a1.1, r1.sub.sqT b1.1, h1.now r1 (it_zipT a1.1 a2 b1.1 b2)⟩⟩
          | _ => exact h1.elim
        | _ => exact h1.elim
/-! ### a call of a def that a name holds -/
end
end DL
set_option Elab.async false
set_option linter.all false
set_option maxRecDepth 100000
set_option maxHeartbeats 4000000
set_option autoImplicit false
/-! Data layer: defs as values, small things. -/
namespace DL
open PySem PySem.Spec PyProof.Rows L2
section
variable {X : Cx} {W : WX} {pos p : Pos} {k n : Nat}
theorem Env1.u10 (h : Env1 X k) : X.A.units + 10 < cLine := by have := h.room.un; omega
end
/-! ### a def that leaves what it made in the store -/
def mDefK (n : Nat) (b : RS) : Mir := fun ds S => match b (ds.map some ++ List.replicate (n - ds.length) none) S with
  | .rt d S1 => .ok d S1
  | .nx _ S1 => .ok .non S1
  | .err c fs _ S1 => .err c fs S1
  | _ => .stuck
theorem fn_okK {P : Program} {w : World} {K : Fg} {mg : Str → Option Value} {base : Heap} {x qual : Str} {st : Stmt} {f : Addr} {fd : FuncData} {N ps : List Str} {k : Nat} {r : RS} (Fu : Fun K x qual st f fd) (Sc : FnScope N ps (defScope st))
    (hbody : ∀ (cdv : Value) (A : Around) (outer : List Env) (s : Shared) (H : Hp) (E : XK), Room k (A.deeper (envOfC qual (defScope st) s.heap.objs.size f cdv)) → A.guards = some [] → PSds (cxOf (L2.CX P w) P w K mg base N qual (defScope st) f cdv A outer s H E) (fun cls d _ H => E cls d H) (defBody st) r) :
    FnG P w K mg base (k + 1) f fd ps (spD w K mg ps.length (mDefK N.length r)) := by
  refine fn_G Fu Sc (fun vs H Q E h => h.1) fun cdv A outer s H vs Q E hr hG h => ?_
  obtain ⟨hl, α, F, S, ds, h1, h2, h3⟩ := h
  obtain ⟨t, pt, st⟩ := (hbody cdv A outer s H E hr hG).ex
  refine ⟨t, pt, st α F _ H _ S _ h1 (slots_start h2) ?_⟩
  have h3 : wp w K mg α F H (relD w K mg) (mDefK N.length r ds S) Q E := h3
  unfold mDefK at h3
  cases q : r (ds.map some ++ List.replicate (N.length - ds.length) none) S with
  | nx δ S1 =>
    rw [q] at h3
    intro σ' H' β F' r1 s1 _
    exact h3 .non H' β F' r1 s1 .non
  | rt d S1 =>
    rw [q] at h3
    exact h3
  | err c fs δ S1 =>
    rw [q] at h3
    intro cls dd σ' H' β F' r1 s1 _ he
    exact h3 cls dd H' β F' r1 s1 he
  | bk δ S1 => rw [q] at h3; exact h3.elim
  | ct δ S1 => rw [q] at h3; exact h3.elim
  | stuck => rw [q] at h3; exact h3.elim
theorem fn_mkK {P : Program} {w : World} {K : Fg} {mg : Str → Option Value} {base : Heap} {x : Str} {st : Stmt} {N ps : List Str} {k : Nat} {r : RS} (Fu : Fd K mg x st ps) (Sc : FnScope N ps (defScope st))
    (hbody : ∀ (f : Addr) (cdv : Value) (A : Around) (outer : List Env) (s : Shared) (H : Hp) (E : XK), Env1 (cxOf (L2.CX P w) P w K mg base N x (defScope st) f cdv A outer s H E) k → Takes (cxOf (L2.CX P w) P w K mg base N x (defScope st) f cdv A outer s H E) (fun cls d _ H => E cls d H) →
      PSds (cxOf (L2.CX P w) P w K mg base N x (defScope st) f cdv A outer s H E) (fun cls d _ H => E cls d H) (defBody st) r) : Fn P w K mg base x ps.length (k + 1) (mDefK N.length r) := by
  obtain ⟨f, fd, h1, h2, h3⟩ := Fu.ex
  exact ⟨f, fd, ps, h2, h1.kp, h3, fn_okK h1 Sc fun cdv A outer s H E hr hG => hbody f cdv A outer s H E ⟨hr, hG, passes_of rfl⟩ (takes_of rfl rfl rfl rfl)⟩
section
variable {X : Cx} {pos : Pos} {k : Nat} {es : List Expr}
theorem plc_noT {vs : List Nat} {scope : Scope} {elt : Expr} {t : TGs} {u : List D → Sl → Sto → Res Sl} {re : RE} (hc : X.calm = true) (hg : ∀ (s : Shared) (H : Hp) (C : Addr) (cl : List (Str × Addr)) (fp : List Addr), PGxs (X.blk s H scope (compEnvC scope cl C X.env) fp) vs es t u)
    (he : ∀ (s : Shared) (H : Hp) (C : Addr) (cl : List (Str × Addr)) (fp : List Addr), PD (X.blk s H scope (compEnvC scope cl C X.env) fp) W0 elt re)
    (hn : ∀ (s : Shared) (H : Hp) (C : Addr) (cl : List (Str × Addr)) (fp : List Addr), (assignEach es (X.blk s H scope (compEnvC scope cl C X.env) fp).env).length = es.length := by intros; rfl)
    (hst : ∀ (s : Shared) (H : Hp) (C : Addr) (cl : List (Str × Addr)) (fp : List Addr), (assignEach es (X.blk s H scope (compEnvC scope cl C X.env) fp).env).findIdx? (·.1) = none := by intros; rfl) :
    PLc X vs scope (.Tuple es k pos) elt [] (L2.gTup X.K es.length t) tYes (gTup u) bYes re :=
  plc_no (fun s H C cl fp => pgx_tup (X := X.blk s H scope (compEnvC scope cl C X.env) fp) hc (hg s H C cl fp) (hn s H C cl fp) (hst s H C cl fp)) he
end
/-! ### tests by cases, calls of nothing -/
def bIf (c a b : RB) : RB := fun δ S => (c δ S).bind fun k S1 => if k then a δ S1 else b δ S1
end DL
set_option Elab.async false
set_option linter.all false
set_option maxRecDepth 100000
set_option maxHeartbeats 4000000
set_option autoImplicit false
/-! Data layer: repr of data with numbers of up to 4300 figures. -/
namespace DL
open PySem PySem.Spec PyProof.Rows L2
def NoDig (K : Fg) : Prop := PySem.W.nsIn K cStatics "sys.int_max_str_digits" = some none
end DL
set_option Elab.async false
set_option linter.all false
set_option maxRecDepth 100000
set_option maxHeartbeats 4000000
set_option autoImplicit false
/-! The head's hook, with what the interpreter's own table lacks. -/
namespace DL
open PySem PySem.Spec PyProof.Rows L2
def digB (K : Fg) : Bool := decide (PySem.W.nsIn K cStatics "sys.int_max_str_digits" = some none)
end DL
set_option Elab.async false
set_option linter.all false
set_option maxRecDepth 100000
set_option maxHeartbeats 4000000
set_option autoImplicit false
/-! Module's names that hold tuples. -/
namespace DL
open PySem PySem.Spec PyProof.Rows L2
mutual
def litB (K : Fg) : Nat → Value → D → Bool
  | _, .none, .non => true
  | _, .bool b, .bl c => decide (b = c)
  | _, .int i _, .int j => decide (i = j)
  | _, .str x _, .str y => decide (x = y)
  | n + 1, .ref a, .tup ds => (match K.lookup a with
    | some ⟨.type c, none, .seq us _, _⟩ => decide (c = "tuple") && (decide (us.size ≤ sizeLine) && litAll K n us.toList ds)
    | _ => false)
  | _, _, _ => false
def litAll (K : Fg) : Nat → List Value → List D → Bool
  | _, [], [] => true
  | n, u :: us, d :: ds => litB K n u d && litAll K n us ds
  | _, _, _ => false
end
section
variable {K : Fg} {w : World} {mg : Str → Option Value}
def litF (K : Fg) (p : Str × D) : Bool := match PySem.W.nsIn K mainGlobals p.1 with
  | some (some u) => litB K 9 u p.2
  | _ => false
end
/-! the head's hook with these -/
def obsL (fa : List He.Fa) (fn : List He.DefD) (li : List (Str × D)) (K : Fg) : He.AlD := (digB K && (li.all (litF K) && (He.obsD fa fn K).1), (He.obsD fa fn K).2)
def SaysL (fa : List He.Fa) (fn : List He.DefD) (li : List (Str × D)) (K : Fg) : Prop := obsL fa fn li K = He.valD fn
def obsLG (n : Nat) (fa : List He.Fa) (fn : List He.DefD) (li : List (Str × D)) (g : Addr → Option Obj) : He.AlD := obsL fa fn li (He.frG g (He.asD g n ++ [cStatics]))
def hookL (n : Nat) (fa : List He.Fa) (fn : List He.DefD) (li : List (Str × D)) : PySem.W.Hook where
  α := He.AlD
  obs := fun s => obsLG n fa fn li s.heap.get?
  val := fun _ => He.valD fn
  says := fun _ h => ∃ K : Fg, K.In h ∧ SaysL fa fn li K
  of := fun _ _ e => ⟨_, He.frG_in, e⟩
  keeps := fun _ _ _ ⟨K, hK, c⟩ k => ⟨K, PySem.W.Frag.In.keeps hK k, c⟩
theorem obsLG_eq {n : Nat} {fa : List He.Fa} {fn : List He.DefD} {li : List (Str × D)} {g : Addr → Option Obj} {s : Shared} (h : ∀ a, g a = s.heap.get? a) : obsLG n fa fn li g = (hookL n fa fn li).obs s := by
  have e : g = s.heap.get? := funext h
  rw [e] <;> rfl
theorem SaysL.all {fa : List He.Fa} {fn : List He.DefD} {li : List (Str × D)} {K : Fg} (h : SaysL fa fn li K) : He.SaysD fa fn K ∧ NoDig K ∧ ∀ (i : Nat) (p : Str × D), li[i]? = some p → litF K p = true := by
  have h0 : obsL fa fn li K = He.valD fn := h
  have h1 : (digB K && (li.all (litF K) && (He.obsD fa fn K).1)) = true := congrArg (fun z : He.AlD => z.1) h0
  have h2 : (obsL fa fn li K).2 = (He.valD fn).2 := congrArg (fun z : He.AlD => z.2) h0
  rw [Bool.and_eq_true, Bool.and_eq_true] at h1
  refine ⟨?_, ?_, fun i p hp => List.all_eq_true.mp h1.2.1 p (List.mem_of_getElem? hp)⟩
  · show He.obsD fa fn K = He.valD fn
    exact Prod.ext h1.2.2 h2
  · have h3 := h1.1
    unfold digB at h3
    unfold NoDig
    exact of_decide_eq_true h3
end DL
set_option Elab.async false
set_option linter.all false
set_option maxRecDepth 100000
set_option maxHeartbeats 4000000
set_option autoImplicit false
/-! list(range(n)): a new list of numbers. -/
namespace DL
open PySem PySem.Spec PyProof.Rows L2
/-- list(range(n)) -/
def rListR (a : RE) : RE := fun δ S => (a δ S).bind fun d S1 => match d with
  | .int j => if 0 ≤ j ∧ j ≤ 16777216 then .ok (.lst (rangeD 0 j)) S1 else .stuck
  | _ => .stuck
section
variable {X : Cx} {W : WX} {a : Expr} {ra : RE} {pos pos2 p p2 : Pos} {wd : World} {K : Fg} {mg : Str → Option Value} {F : Hp} {α : List Addr}
theorem dvs_range (j : Int) : DVs wd K mg F α (rgV 0 j) (rangeD 0 j) := by
  have := DVs.of_ints (wd := wd) (K := K) (mg := mg) (F := F) (α := α) ((List.range (j - 0).toNat).map fun (i : Nat) => (0 + (i : Int)))
  rw [List.map_map, List.map_map] at this
  exact this
theorem pf_listRange (hc : X.calm = true) (hm : X.mg "list" = none) (hm2 : X.mg "range" = none) (ha : PD X W a ra) (hg : Gl X "list" := by rfl) (hg2 : Gl X "range" := by rfl)
    (na : starEach [a] X.env = (false, eval a X.env) :: starEach [] X.env := by rfl) (nb : starEach [.Call (.Name "range" p2) [a] [] pos2] X.env = (false, eval (.Call (.Name "range" p2) [a] [] pos2) X.env) :: starEach [] X.env := by rfl) :
    PF X W (.Call (.Name "list" p) [.Call (.Name "range" p2) [a] [] pos2] [] pos) (rListR ra) := by
  obtain ⟨t, pt, st⟩ := ha.ex
  refine ⟨_, pe_listRg hc hg hm (prg_1 hg2 hm2 pt na) nb, fun α F σ H δ S Q hr hs h => ?_⟩
  refine st α F σ H δ S _ hr hs (wpF.bind h fun d S1 _ x H1 β F1 r1 q1 v1 h1 => ?_)
  split at h1
  · rename_i j _
    cases v1
    split at h1
    · rename_i hj
      refine ⟨j, rfl, RgOk.of_le (by omega) (by omega) (by omega) (by omega), fun q hq => h1.lay r1 hq ⟨rgV 0 j, upd_same, dvs_range j⟩ rfl⟩
    · exact h1.elim
  · exact h1.elim
end
end DL
set_option Elab.async false
set_option linter.all false
set_option maxRecDepth 100000
set_option maxHeartbeats 4000000
set_option autoImplicit false
/-! d.update(e), both dicts with keys ints and texts. -/
namespace L2
open PySem PySem.Spec PyProof.Rows
end L2
set_option Elab.async false
set_option linter.all false
set_option maxRecDepth 100000
set_option maxHeartbeats 4000000
set_option autoImplicit false
/-! sorted(d) of a dict with texts for keys, fewer than 64. -/
set_option Elab.async false
set_option linter.all false
set_option maxRecDepth 100000
set_option maxHeartbeats 4000000
set_option autoImplicit false
/-! a != b of two dicts whose values are numbers. -/
set_option Elab.async false
set_option linter.all false
set_option maxRecDepth 100000
set_option maxHeartbeats 4000000
set_option autoImplicit false
/-! d.clear() of a dict with keys ints and texts. -/
set_option Elab.async false
set_option linter.all false
set_option maxRecDepth 100000
set_option maxHeartbeats 4000000
set_option autoImplicit false
/-! a != b of two dicts whose values are data. -/
set_option Elab.async false
set_option linter.all false
set_option maxRecDepth 100000
set_option maxHeartbeats 4000000
set_option autoImplicit false
/-! sorted(d) of a dict with ints for keys, any number of them. -/
namespace L2
open PySem PySem.Spec PyProof.Rows
end L2
set_option Elab.async false
set_option linter.all false
set_option maxRecDepth 100000
set_option maxHeartbeats 4000000
set_option autoImplicit false
/-! enumerate(tuple). -/
namespace PySem
open Sem (wp)
open AutoSeq1 (wpAny_loadPart')
theorem meets_enumerate_new1 {v : Value} {o : Obj} {H : Heap → Prop} (B : Begins v o H) :
    Meets (Builtin.«enumerate.__new__» ⟨[.type "enumerate", v], []⟩) (fun _ R s => H s.heap ∧
      R (.ok (.ret (.ref (s.heap.push o).objs.size))) { s with heap := (s.heap.push o).push { cls := .type "enumerate", data := .fields #[.none, .bool false, .ref s.heap.objs.size, rawInt 0, .none, .none] } }) :=
  .of_wp fun prog w A R s h => by
    obtain ⟨hp, g, d, tk, os⟩ := s; obtain ⟨h1, h⟩ := h
    have hsub := sub_enumerate
    have q1 : ∀ {A' : Around} {E : Value → Shared → Prop} {Q : Value → Shared → Prop}, Q (.ref hp.objs.size) ⟨hp.push o, g, d, tk, os⟩ → wpAny (model prog w) A' (pyIter v) Q E ⟨hp, g, d, tk, os⟩ :=
      fun q => B.iter prog w _ _ ⟨hp, g, d, tk, os⟩ _ h1 q
    wp_walk using q1
    refine wpAny_stack_any fun st => wpAny_pure ?_
    split
    · rename_i c _ _ _ _ _
      cases (c == Value.type "enumerate")
      · wp_walk using q1
        exact ⟨_, rfl, h⟩
      · wp_walk using q1
        exact ⟨_, rfl, h⟩
    · wp_walk using q1
      exact ⟨_, rfl, h⟩
section
variable {prog : Program} {w : World} {A : Around} {E : Value → Shared → Prop} {s : Shared}
theorem enum_begins1 {v : Value} {o : Obj} {H : Heap → Prop} {Q : Value → Shared → Prop} (B : Begins v o H) (h1 : H s.heap)
    (h : ∀ h', IsEnum h' (s.heap.objs.size + 1) s.heap.objs.size 0 .none → h'.get? s.heap.objs.size = some o → h'.objs.size = s.heap.objs.size + 2 →
      (∀ b o, s.heap.get? b = some o → h'.get? b = some o) → Q (.ref (s.heap.objs.size + 1)) { s with heap := h' }) :
    wpAny (model prog w) A (call (.type "enumerate") [v]) Q E s := by
  refine callType_new F.called_enumerate (by decide) (F.typeCall_enumerate_1 _) (F.newCall_enumerate_1 _) (fun obj => F.args_object_init_2 obj _) F.entry_enumerate_new
    (meets_enumerate_new1 B) ⟨h1, ?_⟩
  have hz : (s.heap.push o).objs.size = s.heap.objs.size + 1 := Heap.size_push ..
  show _ ∧ _
  rw [hz]
  have he : IsEnum ((s.heap.push o).push { cls := .type "enumerate", data := .fields #[.none, .bool false, .ref s.heap.objs.size, rawInt 0, .none, .none] }) (s.heap.objs.size + 1) s.heap.objs.size 0 .none := by
    have := Heap.get?_push_size (s.heap.push o) (o := { cls := .type "enumerate", data := .fields #[.none, .bool false, .ref s.heap.objs.size, rawInt 0, .none, .none] }) rfl
    rw [hz] at this; exact this
  refine ⟨⟨_, he, rfl⟩, h _ he (Heap.get?_push_of_some _ (Heap.get?_push_size _ B.free)) (by rw [Heap.size_push, hz]) fun b o x => Heap.get?_push_of_some _ (Heap.get?_push_of_some _ x)⟩
end
end PySem
namespace L2
open PySem PySem.Spec PyProof.Rows
def IteT (K : PySem.W.Frag) (a : Addr) : It :=
  ⟨fun i H => ∃ (xs : List V) (x : V), SqT K H a xs ∧ xs[i]? = some x, fun i H v H' => ∃ T x, v = .ref T ∧ H T = none ∧ H' = upd H T (.tup [.int (i : Nat), x]) ∧ ∀ xs, SqT K H a xs → xs[i]? = some x, fun i H => ∃ xs : List V, SqT K H a xs ∧ xs.length ≤ i⟩
theorem turn_enumT {P : Program} {w : World} {K : PySem.W.Frag} {elts : List Expr} {kk : Nat} {tpos : Pos} (a e it : Addr) :
    Turn P w K (.Tuple elts kk tpos) (IteT K a) [e, it] e (fun i h => (∃ old, IsEnum h e it ((i : Nat) : Int) old) ∧ h.IsTupleIter it a i ∧ e ≠ it) where
  mem := by simp
  obj := fun i h st b hb => by
    obtain ⟨⟨old, he⟩, ⟨o, ho, hc, hd⟩, _⟩ := st
    have e' : b = e ∨ b = it := by simpa using hb
    rcases e' with z | z
    · rw [z]; exact ⟨_, he, fun v q => nomatch q⟩
    · rw [z]; exact ⟨o, ho, fun v q => by rw [hd] at q; cases q⟩
  keep := fun i h h' st k => let ⟨⟨old, he⟩, hi, hne⟩ := st; ⟨⟨old, k e (by simp) _ he⟩, hi.at fun o q => k it (by simp) o q, hne⟩
  item := by
    intro X hP hw hK hc i pins s σ H E I hf st hg
    subst hP hw hK
    obtain ⟨⟨old, he⟩, hit, hne⟩ := st
    obtain ⟨xs, x, hq, hx⟩ := hg
    obtain ⟨its, rv, p, hz⟩ := I.tuple hq
    obtain ⟨u, hu, ru⟩ := rv.get hx
    have pt : s.heap.IsTuple a its.toArray := p
    have hel : e < s.heap.objs.size := Heap.lt_size he
    have hil : it < s.heap.objs.size := by obtain ⟨_, q, _⟩ := hit; exact Heap.lt_size q
    have hea : e ≠ a := fun z => by
      obtain ⟨o, ho, hcl, _⟩ := pt
      rw [← z] at ho
      rw [show s.heap.get? e = some _ from he] at ho
      cases ho
      have hcl : Value.type "enumerate" = Value.type "tuple" := hcl
      exact absurd (Value.type.inj hcl) (by decide)
    have hai : a ≠ it := fun z => by
      obtain ⟨o, ho, hcl, _⟩ := pt
      obtain ⟨o2, ho2, hcl2, _⟩ := hit
      rw [z, ho2] at ho
      cases ho
      rw [hcl2] at hcl
      exact absurd hcl (by decide)
    have Dr : Draws X.prog X.w X.A.in1 it [it, a] its.toArray.size (fun i v => its.toArray[i]? = some v) (fun i h => h.IsTupleIter it a i ∧ h.IsTuple a its.toArray) := Draws.tuple (show X.A.in1.handled = none from I.ok.hd hc) it a hai its.toArray
    have hlt : i < its.toArray.size := by
      rw [List.size_toArray]
      exact (List.getElem?_eq_some_iff.mp hu).1
    refine wpAny_pyNext_enum_itemD Dr he ⟨hit, pt⟩ hlt hne (by simp [hne, hea]) fun x' h' tk hx' ho hst' hT hsz hk => ?_
    have ex : x' = u := by
      have h1 : its[i]? = some x' := by simpa using hx'
      rw [hu] at h1
      exact (Option.some.inj h1).symm
    subst ex
    refine ⟨_, rfl, wpAny_letOwnedTupleGo_enum (s := { s with heap := h', toks := tk + 1 }) ho fun h'' he' sb => ?_⟩
    have hT2 : h''.get? s.heap.objs.size = some { cls := .type "tuple", data := .seq #[.int i tk, x'] } := (sb.2 _ (Nat.ne_of_gt hel)).trans hT
    have new : ObjOk X.prog X.w (upd H s.heap.objs.size (.tup [.int (i : Nat), x])) h'' s.heap.objs.size (.tup [.int (i : Nat), x]) :=
      ⟨by show 2 ≤ sizeLine; decide, [.int i tk, x'], .cons ⟨_, rfl⟩ (.cons ru .nil), ⟨_, hT2, rfl, _, rfl⟩⟩
    have I1 : Inv X pins σ (upd H s.heap.objs.size (.tup [.int (i : Nat), x])) { s with heap := h'', toks := tk + 1 } :=
      I.turnedNew (ch := [e, it]) (fun b ob hb q => (sb.2 b (fun z => hb (by simp [z]))).trans (hk b ob (fun z => hb (by simp [z])) (fun z => hb (by simp [z])) q)) hf (Nat.le_refl _) new
    refine ⟨.ref s.heap.objs.size, _, I1, rfl, ⟨_, x, rfl, I.hok.fresh (Nat.le_refl _), rfl, fun ys hy => by rw [I.tuple_inj hy hq]; exact hx⟩, ⟨⟨x', ?_⟩, hst'.1.at fun o q => (sb.2 it (Ne.symm hne)).trans q, hne⟩, fun b hb => ?_⟩
    · have e1 : ((i + 1 : Nat) : Int) = (i : Int) + 1 := by omega
      rw [e1]; exact he'
    · have hb' : b < s.heap.objs.size := by
        have e' : b = e ∨ b = it := by simpa using hb
        rcases e' with z | z
        · rw [z]; exact hel
        · rw [z]; exact hil
      rw [upd_ne (Nat.ne_of_lt hb')]
      exact (hf b hb).1
  done := by
    intro X hP hw hK hc i pins s σ H E I hf st hg
    subst hP hw hK
    obtain ⟨⟨old, he⟩, hit, hne⟩ := st
    obtain ⟨xs, hq, hx⟩ := hg
    obtain ⟨its, rv, p, hz⟩ := I.tuple hq
    have pt : s.heap.IsTuple a its.toArray := p
    obtain ⟨f0, f1, f2, f3, f4, f5⟩ := hf it (by simp)
    have hl := rv.length
    have hai : a ≠ it := fun z => by
      obtain ⟨o, ho, hcl, _⟩ := pt
      obtain ⟨o2, ho2, hcl2, _⟩ := hit
      rw [z, ho2] at ho
      cases ho
      rw [hcl2] at hcl
      exact absurd hcl (by decide)
    have Dr : Draws X.prog X.w X.A.in1 it [it, a] i (fun i v => its.toArray[i]? = some v) (fun j h => j = i ∧ h.IsTupleIter it a i ∧ h.IsTuple a its.toArray) := {
      live := fun _ _ st => let ⟨o, ho, _⟩ := st.2.1; ⟨o, ho⟩
      frame := fun _ _ _ st hk => ⟨st.1, st.2.1.at fun o e => hk it (by simp) o e, st.2.2.at fun o e => hk a (by simp) o e⟩
      item := fun i' s' Q E' hi st hQ => by have := st.1; omega
      done := fun s' Q E' st hE => wpAny_nextOf_tuple_end (show X.A.in1.handled = none from I.ok.hd hc) st.2.1 st.2.2 (by simp; omega) hE }
    exact wpAny_pyNext_enum_endD Dr he ⟨rfl, hit, pt⟩ fun h' eb => ⟨rfl, I.turned (t' := s.toks) (fun b o hb q => eb b o hb q) f0 f1 f3 f4 f5⟩
  self := fun A i s Q E st h => let ⟨⟨_, he⟩, _⟩ := st; wpAny_pyIter_enum he h
def iEnumT (K : PySem.W.Frag) (ta : TA) : TI := fun σ H R => ta σ H fun vs H1 => ∃ a xs, vs = [.ref a] ∧ SqT K H1 a xs ∧ R (IteT K a) H1
theorem pi_enumT {X : Cx} {e : Expr} {ta : TA} {p pos tpos : Pos} {elts : List Expr} {kk : Nat} (hg : Gl X "enumerate") (hm : X.mg "enumerate" = none) (ha : PA X [e] ta) (hs : starEach [e] X.env = [(false, eval e X.env)] := by rfl) :
    PI X (.Tuple elts kk tpos) (.Call (.Name "enumerate" p) [e] [] pos) (iEnumT X.K ta) := by
  refine ⟨fun pins s σ H R I h => ?_⟩
  refine Call_ (ld_blt I hg hm boot_enumerate (PyProof.Rows.callWith_type1 (thn (ha.run pos pins s σ H _ I h) fun us s1 ⟨vs, H1, I1, r1, q1⟩ => ?_) hs rfl))
  obtain ⟨a, xs, ex, hq, q⟩ := q1
  subst ex
  cases r1 with
  | cons r rr =>
    cases rr
    cases r
    obtain ⟨its, rv, p', hz⟩ := I1.tuple hq
    refine enum_begins1 (begins_tuple a its.toArray) (show s1.heap.IsTuple a its.toArray from p') fun h' he hit hsz hk => wpAny_pyIter_enum he ?_
    have I2 : Inv X pins σ H1 { s1 with heap := h' } := I1.kept (t' := s1.toks) hk
    refine ⟨s1.heap.objs.size + 1, [s1.heap.objs.size + 1, s1.heap.objs.size], _, _, H1, rfl, I2, turn_enumT a (s1.heap.objs.size + 1) s1.heap.objs.size, ⟨⟨.none, he⟩, ⟨_, hit, rfl, rfl⟩, Nat.succ_ne_self _⟩, fun b hb => ?_, q⟩
    have e' : b = s1.heap.objs.size + 1 ∨ b = s1.heap.objs.size := by simpa using hb
    have hle : s1.heap.objs.size ≤ b := by
      rcases e' with z | z
      · rw [z]; exact Nat.le_add_right _ _
      · rw [z]; exact Nat.le_refl _
    exact I1.fpOk hle (I1.hok.fresh hle)
end L2
namespace DL
open PySem PySem.Spec PyProof.Rows L2
def rEnumT (a : RA) : RA := fun δ S => (a δ S).bind fun xs S1 => match xs with
  | [.tup ds] => .ok (enumD 0 ds) S1
  | _ => .stuck
section
variable {wd : World} {K : Fg} {mg : Str → Option Value} {α : List Addr} {F H : Hp} {S : Sto}
theorem it_enumT {l : Addr} {us : List V} {ds : List D} (h : SqT K F l us) (hv : DVs wd K mg F α us ds) : ItOk wd K mg F α (IteT K l) (enumD 0 ds) where
  go := fun F' H' i a b hi => by
    rw [enumD_len] at hi
    obtain ⟨v, e1, _⟩ := hv.get (List.getElem?_eq_getElem hi)
    exact ⟨us, v, (a.trans b).sqT h, e1⟩
  stop := fun F' H' a b => ⟨us, (a.trans b).sqT h, by rw [enumD_len, hv.length]; exact Nat.le_refl _⟩
  yld := fun F' H' H2 i x d a b hd ⟨T, y, e1, e2, e3, e4⟩ => by
    have f1 := e4 us ((a.trans b).sqT h)
    obtain ⟨p, e6, rfl⟩ := enumD_get hd
    obtain ⟨v, e8, e9⟩ := hv.get e6
    rw [f1] at e8; cases e8
    subst e1
    have nF : F' T = none := by
      cases z : F' T with
      | none => rfl
      | some u => rw [b _ _ z] at e2; cases e2
    have sb := a.trans (Sub.new (o := .tup [.int (i : Nat), y]) nF)
    refine .inr ⟨T, _, e2, e3, .tux (SqT.of upd_same) (.cons ?_ (.cons ?_ .nil))⟩
    · rw [Nat.zero_add]; exact .int _
    · have := e9.mono (β := []) sb
      rw [List.append_nil] at this; exact this
end
section
variable {X : Cx} {W : WX} {e : Expr} {rs : RA} {pos p : Pos}
theorem pid_enumT {elts : List Expr} {kk : Nat} {tpos : Pos} (hm : X.mg "enumerate" = none) (ha : PDs X W [e] rs) (hg : Gl X "enumerate" := by rfl) (hs : starEach [e] X.env = [(false, eval e X.env)] := by rfl) : PId X W (.Tuple elts kk tpos) (.Call (.Name "enumerate" p) [e] [] pos) (rEnumT rs) := by
  obtain ⟨t, p1, s1⟩ := ha.ex
  refine ⟨_, pi_enumT hg hm p1 hs, fun α F σ H δ S Q hr hs h => ?_⟩
  refine s1 α F σ H δ S _ hr hs (wp.bind h fun ds S1 e1 xs H1 β F1 r1 q1 v1 h1 => ?_)
  have hl := ha.len _ _ _ _ e1
  match ds, hl with
  | [d], _ =>
    cases v1 with
    | cons v1 vn =>
      cases vn
      cases d with
      | tup ys =>
        cases v1 with
        | tup a1 a2 => exact ⟨_, _, rfl, r1.sub.sqT a1.1, h1.now r1 (it_enumT a1.1 a2)⟩
      | _ => exact h1.elim
end
end DL
set_option Elab.async false
set_option linter.all false
set_option maxRecDepth 100000
set_option maxHeartbeats 4000000
set_option autoImplicit false
/-! t[:0:-1] of a tuple that is not empty. -/
set_option Elab.async false
set_option linter.all false
set_option maxRecDepth 100000
set_option maxHeartbeats 4000000
set_option autoImplicit false
/-! xs.count(n) of ints. -/
namespace L2
open PySem PySem.Spec PyProof.Rows
end L2
set_option Elab.async false
set_option linter.all false
set_option maxRecDepth 100000
set_option maxHeartbeats 4000000
set_option autoImplicit false
/-! Polys over fractions: worth, slope, and that a poly whose slopes are not below nought does not fall (by a rule of eleven spots, exact to degree ten). -/
namespace DL
namespace PR
def ev : List Rat → Rat → Rat
  | [], _ => 0
  | c :: r, z => c + z * ev r z
def sc (k : Rat) (p : List Rat) : List Rat := p.map (k * ·)
/-! the rule -/
end PR
end DL
set_option Elab.async false
set_option linter.all false
set_option maxRecDepth 100000
set_option maxHeartbeats 4000000
set_option autoImplicit false
/-! Where a poly of whole numbers comes to nought: by the spots of its slopes. -/
namespace DL
namespace PR
def evI : List Int → Int → Int
  | [], _ => 0
  | c :: r, z => c + z * evI r z
def cs (p : List Int) : List Rat := p.map fun c : Int => ((c : Int) : Rat)
/-! one sign -/
/-! few roots -/
end PR
end DL
set_option Elab.async false
set_option linter.all false
set_option maxRecDepth 100000
set_option maxHeartbeats 4000000
set_option autoImplicit false
/-! The spots of a poly tell its whole roots. -/
namespace DL
namespace PR
end PR
end DL
set_option Elab.async false
set_option linter.all false
set_option maxRecDepth 100000
set_option maxHeartbeats 4000000
set_option autoImplicit false
/-! The row of spots; polys put together of whole roots, and taken apart. -/
namespace DL
namespace PR
/-! a poly's numbers are told by its worths -/
theorem uniq : ∀ (p q : List Int) (N : Int), p.length = q.length → (∀ z, N ≤ z → evI p z = evI q z) → p = q
  | [], [], _, _, _ => rfl
  | [], _ :: _, _, h, _ => by simp at h
  | _ :: _, [], _, h, _ => by simp at h
  | c :: p, d :: q, N, hl, h => by
    have cd : c = d := by
      have h0 := h (N.natAbs + (c - d).natAbs + 1) (by omega)
      have h0 : c + (N.natAbs + (c - d).natAbs + 1 : Int) * evI p (N.natAbs + (c - d).natAbs + 1) = d + (N.natAbs + (c - d).natAbs + 1 : Int) * evI q (N.natAbs + (c - d).natAbs + 1) := h0
      generalize evI p (N.natAbs + (c - d).natAbs + 1) = u at h0
      generalize evI q (N.natAbs + (c - d).natAbs + 1) = v at h0
      have h1 : c - d = (N.natAbs + (c - d).natAbs + 1 : Int) * (v - u) := by rw [Int.mul_sub]; omega
      by_cases e : v - u = 0
      · rw [e, Int.mul_zero] at h1; omega
      · exfalso
        have h2 := congrArg Int.natAbs h1
        rw [Int.natAbs_mul] at h2
        have h3 : 1 ≤ (v - u).natAbs := by omega
        have h4 : (N.natAbs + (c - d).natAbs + 1 : Int).natAbs = N.natAbs + (c - d).natAbs + 1 := by omega
        rw [h4] at h2
        have h5 := Nat.le_mul_of_pos_right (N.natAbs + (c - d).natAbs + 1) h3
        omega
    subst cd
    congr 1
    refine uniq p q (max N 1) (by simpa using hl) fun z hz => ?_
    have h0 : c + z * evI p z = c + z * evI q z := h z (by omega)
    have h1 : z * evI p z = z * evI q z := by omega
    exact Int.eq_of_mul_eq_mul_left (by omega) h1
/-! z less a root, times a poly -/
def ml : Int → Int → List Int → List Int
  | prev, _, [] => [prev]
  | prev, r, c :: q => (prev - r * c) :: ml c r q
def mulLin (r : Int) (q : List Int) : List Int := ml 0 r q
def hq (r : Int) : List Int → List Int
  | [] => []
  | c :: t => (c + r * evI t r) :: hq r t
/-- z less each root, times a poly -/
def can (K : List Int) (R : List Int) : List Int := R.foldr mulLin K
end PR
end DL
set_option Elab.async false
set_option linter.all false
set_option maxRecDepth 100000
set_option maxHeartbeats 4000000
set_option autoImplicit false
/-! Squares of whole numbers: sums, products, powers, traces. -/
namespace DL
namespace PR
def Sm (n : Nat) (f : Nat → Int) : Int := ((List.range n).map f).sum
theorem sm_zero (f : Nat → Int) : Sm 0 f = 0 := rfl
theorem sm_succ (n : Nat) (f : Nat → Int) : Sm (n + 1) f = Sm n f + f n := by
  unfold Sm
  rw [List.range_succ, List.map_append, List.sum_append]
  simp
theorem sm_congr {n : Nat} {f g : Nat → Int} (h : ∀ k, k < n → f k = g k) : Sm n f = Sm n g := by
  unfold Sm
  congr 1
  exact List.map_congr_left fun k hk => h k (List.mem_range.mp hk)
theorem sm_nought {n : Nat} {f : Nat → Int} (h : ∀ k, k < n → f k = 0) : Sm n f = 0 := by
  rw [sm_congr h]
  induction n with
  | zero => rfl
  | succ n ih => rw [sm_succ, ih fun k hk => h k (Nat.lt_succ_of_lt hk)]; rfl
theorem sm_add (n : Nat) (f g : Nat → Int) : Sm n (fun k => f k + g k) = Sm n f + Sm n g := by
  induction n with
  | zero => rfl
  | succ n ih => rw [sm_succ, sm_succ, sm_succ, ih]; omega
theorem sm_mul (n : Nat) (c : Int) (f : Nat → Int) : Sm n (fun k => c * f k) = c * Sm n f := by
  induction n with
  | zero => show (0 : Int) = c * 0; omega
  | succ n ih => rw [sm_succ, sm_succ, ih, Int.mul_add]
theorem sm_mulR (n : Nat) (c : Int) (f : Nat → Int) : Sm n (fun k => f k * c) = Sm n f * c := by
  rw [Int.mul_comm, ← sm_mul]
  exact sm_congr fun k _ => Int.mul_comm _ _
theorem sm_swap (n m : Nat) (f : Nat → Nat → Int) : Sm n (fun i => Sm m fun j => f i j) = Sm m fun j => Sm n fun i => f i j := by
  induction n with
  | zero => rw [sm_zero]; exact (sm_nought fun _ _ => rfl).symm
  | succ n ih =>
    rw [sm_succ, ih, ← sm_add]
    exact sm_congr fun j _ => (sm_succ n fun i => f i j).symm
theorem sm_one (n i : Nat) (f : Nat → Int) : Sm n (fun k => if k = i then f k else 0) = if i < n then f i else 0 := by
  induction n with
  | zero => rfl
  | succ n ih =>
    rw [sm_succ, ih]
    by_cases h : i < n
    · rw [if_pos h, if_neg (by omega), if_pos (by omega)]; omega
    · by_cases e : n = i
      · rw [if_neg h, if_pos e, if_pos (by omega), e]; omega
      · rw [if_neg h, if_neg e, if_neg (by omega)]; rfl
abbrev Mt := Nat → Nat → Int
/-- nought beyond n rows and columns -/
def Cl (n : Nat) (A : Mt) : Prop := ∀ i j, ¬ (i < n ∧ j < n) → A i j = 0
def one (n : Nat) : Mt := fun i j => if i = j ∧ i < n then 1 else 0
def mul (n : Nat) (A B : Mt) : Mt := fun i j => Sm n fun k => A i k * B k j
def add (A B : Mt) : Mt := fun i j => A i j + B i j
def smu (c : Int) (A : Mt) : Mt := fun i j => c * A i j
def nou : Mt := fun _ _ => 0
def tr (n : Nat) (A : Mt) : Int := Sm n fun i => A i i
theorem mt_ext {A B : Mt} (h : ∀ i j, A i j = B i j) : A = B := funext fun i => funext fun j => h i j
theorem mul_assoc (n : Nat) (A B C : Mt) : mul n (mul n A B) C = mul n A (mul n B C) := mt_ext fun i j => by
  show Sm n (fun k => (Sm n fun l => A i l * B l k) * C k j) = Sm n fun l => A i l * Sm n fun k => B l k * C k j
  rw [sm_congr fun k _ => (sm_mulR n (C k j) fun l => A i l * B l k).symm, sm_swap]
  refine sm_congr fun l _ => ?_
  rw [← sm_mul]
  exact sm_congr fun k _ => Int.mul_assoc _ _ _
theorem one_mul {n : Nat} {A : Mt} (h : Cl n A) : mul n (one n) A = A := mt_ext fun i j => by
  show Sm n (fun k => (if i = k ∧ i < n then 1 else 0) * A k j) = A i j
  rw [sm_congr (g := fun k => if k = i then A k j else 0) fun k hk => ?_, sm_one]
  · split
    · rfl
    · exact (h i j (by omega)).symm
  · by_cases e : k = i
    · rw [if_pos e, if_pos ⟨e.symm, by omega⟩, Int.one_mul]
    · rw [if_neg e, if_neg (fun q => e q.1.symm), Int.zero_mul]
theorem mul_one {n : Nat} {A : Mt} (h : Cl n A) : mul n A (one n) = A := mt_ext fun i j => by
  show Sm n (fun k => A i k * (if k = j ∧ k < n then 1 else 0)) = A i j
  rw [sm_congr (g := fun k => if k = j then A i k else 0) fun k hk => ?_, sm_one]
  · split
    · rfl
    · exact (h i j (by omega)).symm
  · by_cases e : k = j
    · rw [if_pos e, if_pos ⟨e, hk⟩, Int.mul_one]
    · rw [if_neg e, if_neg (fun q => e q.1), Int.mul_zero]
theorem cl_one (n : Nat) : Cl n (one n) := fun i j h => if_neg (by omega)
theorem cl_mul {n : Nat} {A B : Mt} (ha : Cl n A) (hb : Cl n B) : Cl n (mul n A B) := fun i j h => sm_nought fun k hk => by
  by_cases hi : i < n
  · rw [hb k j (by omega), Int.mul_zero]
  · rw [ha i k (by omega), Int.zero_mul]
theorem mul_add (n : Nat) (A B C : Mt) : mul n A (add B C) = add (mul n A B) (mul n A C) := mt_ext fun i j => by
  show Sm n (fun k => A i k * (B k j + C k j)) = Sm n _ + Sm n _
  rw [← sm_add]
  exact sm_congr fun k _ => Int.mul_add _ _ _
theorem add_mul (n : Nat) (A B C : Mt) : mul n (add A B) C = add (mul n A C) (mul n B C) := mt_ext fun i j => by
  show Sm n (fun k => (A i k + B i k) * C k j) = Sm n _ + Sm n _
  rw [← sm_add]
  exact sm_congr fun k _ => Int.add_mul _ _ _
theorem mul_smu (n : Nat) (c : Int) (A B : Mt) : mul n A (smu c B) = smu c (mul n A B) := mt_ext fun i j => by
  show Sm n (fun k => A i k * (c * B k j)) = c * Sm n _
  rw [← sm_mul]
  exact sm_congr fun k _ => by grind
theorem mul_nou (n : Nat) (A : Mt) : mul n A nou = nou := mt_ext fun i j => sm_nought fun k _ => Int.mul_zero _
theorem tr_add (n : Nat) (A B : Mt) : tr n (add A B) = tr n A + tr n B := sm_add n _ _
theorem tr_smu (n : Nat) (c : Int) (A : Mt) : tr n (smu c A) = c * tr n A := sm_mul n c _
def pw (n : Nat) (A : Mt) : Nat → Mt
  | 0 => one n
  | k + 1 => mul n A (pw n A k)
theorem cl_pw {n : Nat} {A : Mt} (h : Cl n A) : ∀ k, Cl n (pw n A k)
  | 0 => cl_one n
  | k + 1 => cl_mul h (cl_pw h k)
theorem pw_comm {n : Nat} {A : Mt} (h : Cl n A) : ∀ k, mul n A (pw n A k) = mul n (pw n A k) A
  | 0 => by show mul n A (one n) = mul n (one n) A; rw [mul_one h, one_mul h]
  | k + 1 => by
    show mul n A (mul n A (pw n A k)) = mul n (mul n A (pw n A k)) A
    rw [mul_assoc, ← pw_comm h k]
/-- a poly put to a square -/
def evM (n : Nat) (A : Mt) : List Int → Mt
  | [] => nou
  | c :: p => add (smu c (one n)) (mul n A (evM n A p))
/-- sums of numbers of a poly times p -/
def TL (p : Nat → Int) : Nat → List Int → Int
  | _, [] => 0
  | k, c :: l => c * p k + TL p (k + 1) l
theorem tr_evM {n : Nat} {A : Mt} (h : Cl n A) : ∀ (l : List Int) (k : Nat), tr n (mul n (pw n A k) (evM n A l)) = TL (fun j => tr n (pw n A j)) k l
  | [], k => by
    show tr n (mul n (pw n A k) nou) = 0
    rw [mul_nou]
    exact sm_nought fun _ _ => rfl
  | c :: l, k => by
    show tr n (mul n (pw n A k) (add (smu c (one n)) (mul n A (evM n A l)))) = c * tr n (pw n A k) + TL _ (k + 1) l
    rw [mul_add, tr_add, mul_smu, tr_smu, mul_one (cl_pw h k), ← mul_assoc, ← pw_comm h k, ← tr_evM h l (k + 1)]
    rfl
end PR
end DL
set_option Elab.async false
set_option linter.all false
set_option maxRecDepth 100000
set_option maxHeartbeats 4000000
set_option autoImplicit false
/-! Newton's sums: the poly of a square by the traces of its powers. -/
namespace DL
namespace PR
/-- each number of a poly by the ones behind it -/
def NW (p : Nat → Int) : List Int → Prop
  | [] => True
  | c :: l => TL p 1 l + (l.length : Int) * c = 0 ∧ NW p l
end PR
end DL
set_option Elab.async false
set_option linter.all false
set_option maxRecDepth 100000
set_option maxHeartbeats 4000000
set_option autoImplicit false
/-! Squares with noughts below their corners, but for one part of two rows. -/
namespace DL
namespace PR
theorem sm_split (a : Nat) (f : Nat → Int) : ∀ m, Sm (a + m) f = Sm a f + Sm m fun i => f (a + i)
  | 0 => by rw [sm_zero]; show Sm a f = _; omega
  | m + 1 => by rw [← Nat.add_assoc, sm_succ, sm_split a f m, sm_succ]; omega
/-! ### the poly put to the square -/
def sub (A B : Mt) : Mt := fun i j => A i j - B i j
theorem evM_one {n : Nat} {A : Mt} : evM n A [1] = one n := mt_ext fun i j => by
  show 1 * one n i j + mul n A nou i j = one n i j
  rw [mul_nou]
  show 1 * one n i j + 0 = _
  omega
theorem mul_sub (n : Nat) (A B C : Mt) : mul n A (sub B C) = sub (mul n A B) (mul n A C) := mt_ext fun i j => by
  have h := congrFun (congrFun (mul_add n A (sub B C) C) i) j
  have e : add (sub B C) C = B := mt_ext fun i j => by show B i j - C i j + C i j = _; omega
  rw [e] at h
  have h : mul n A B i j = mul n A (sub B C) i j + mul n A C i j := h
  show _ = mul n A B i j - mul n A C i j
  omega
/-! ### seen by other boxes -/
structure Sim (n : Nat) (A A' : Mt) : Prop where
  ex : ∃ E F : Mt, Cl n E ∧ Cl n F ∧ mul n F E = one n ∧ mul n E F = one n ∧ A' = mul n E (mul n A F)
theorem Sim.trans {n : Nat} {A B C : Mt} (h : Sim n A B) (g : Sim n B C) : Sim n A C := by
  obtain ⟨E, F, e1, e2, e3, e4, e5⟩ := h.ex
  obtain ⟨G, H, g1, g2, g3, g4, g5⟩ := g.ex
  refine ⟨mul n G E, mul n F H, cl_mul g1 e1, cl_mul e2 g2, ?_, ?_, ?_⟩
  · rw [mul_assoc, ← mul_assoc n H, g3, one_mul e1, e3]
  · rw [mul_assoc, ← mul_assoc n E, e4, one_mul g2, g4]
  · rw [g5, e5, mul_assoc, mul_assoc, mul_assoc]
end PR
end DL
set_option Elab.async false
set_option linter.all false
set_option maxRecDepth 100000
set_option maxHeartbeats 4000000
set_option autoImplicit false
/-! Determinants of whole numbers by the first row and lesser ones; the poly of a square by traces. -/
namespace DL
namespace PR
def sgn (k : Nat) : Int := if k % 2 = 0 then 1 else -1
theorem sgn_succ (k : Nat) : sgn (k + 1) = 0 - sgn k := by
  unfold sgn
  rcases Nat.mod_two_eq_zero_or_one k with h | h
  · rw [if_neg (by omega), if_pos h]; rfl
  · rw [if_pos (by omega), if_neg (by omega)]; rfl
/-- places without one -/
def sk (i a : Nat) : Nat := if a < i then a else a + 1
def un (c d : Nat) : Nat := if d < c then d else d - 1
theorem un_sk (c k : Nat) : un c (sk c k) = k := by unfold un sk; grind
theorem sk_un {c d : Nat} (h : d ≠ c) : sk c (un c d) = d := by unfold un sk; grind
theorem sk_ne (c k : Nat) : sk c k ≠ c := by unfold sk; split <;> omega
theorem sk_lt {c k m : Nat} (h : k < m) : sk c k < m + 1 := by unfold sk; split <;> omega
theorem sk_inj {c a b : Nat} (h : sk c a = sk c b) : a = b := by have := congrArg (un c) h; rwa [un_sk, un_sk] at this
/-- a lesser square -/
def mn (M : Mt) (i j : Nat) : Mt := fun a b => M (sk i a) (sk j b)
def detI : Nat → Mt → Int
  | 0, _ => 1
  | m + 1, M => Sm (m + 1) fun j => sgn j * M 0 j * detI m (mn M 0 j)
theorem det_congr : ∀ {m : Nat} {M N : Mt}, (∀ i j, i < m → j < m → M i j = N i j) → detI m M = detI m N
  | 0, _, _, _ => rfl
  | m + 1, M, N, h => by
    unfold detI
    refine sm_congr fun j hj => ?_
    rw [h 0 j (by omega) hj, det_congr (M := mn M 0 j) (N := mn N 0 j) fun a b ha hb => h _ _ (sk_lt ha) (sk_lt hb)]
theorem sum_skip {m c : Nat} (hc : c ≤ m) (g : Nat → Int) : (Sm m fun k => g (sk c k)) = Sm (m + 1) fun d => if d = c then 0 else g d := by
  obtain ⟨r, rfl⟩ : ∃ r, m = c + r := ⟨m - c, by omega⟩
  rw [sm_split c _ r, show c + r + 1 = c + (r + 1) by omega, sm_split c _ (r + 1)]
  congr 1
  · refine sm_congr fun k hk => ?_
    rw [if_neg (by omega)]
    unfold sk
    rw [if_pos hk]
  · rw [show r + 1 = 1 + r by omega, sm_split 1 _ r]
    have e : (Sm 1 fun i => if c + i = c then 0 else g (c + i)) = 0 := by
      refine sm_nought fun k hk => if_pos (by omega)
    rw [e, Int.zero_add]
    refine sm_congr fun k _ => ?_
    rw [if_neg (by omega)]
    unfold sk
    rw [if_neg (by omega)]
    congr 1
    omega
theorem expand : ∀ (m : Nat) (M : Mt) (i : Nat), i ≤ m → detI (m + 1) M = Sm (m + 1) fun j => sgn (i + j) * M i j * detI m (mn M i j)
  | m, M, 0, _ => by
    show Sm (m + 1) (fun j => sgn j * M 0 j * detI m (mn M 0 j)) = _
    exact sm_congr fun j _ => by rw [Nat.zero_add]
  | 0, _, i + 1, h => by omega
  | m + 1, M, i + 1, h => by
    have hi : i ≤ m := by omega
    let T : Nat → Nat → Int := fun c d => sgn c * M 0 c * (sgn (i + un c d) * M (i + 1) d * detI m (mn (mn M 0 c) i (un c d)))
    let U : Nat → Nat → Int := fun c d => sgn (i + 1 + d) * M (i + 1) d * (sgn (un d c) * M 0 c * detI m (mn (mn M (i + 1) d) 0 (un d c)))
    have hTU : ∀ c d, c ≠ d → T c d = U c d := fun c d hcd => by
      have hmat : detI m (mn (mn M 0 c) i (un c d)) = detI m (mn (mn M (i + 1) d) 0 (un d c)) := by
        refine det_congr fun a b _ _ => ?_
        show M (sk 0 (sk i a)) (sk c (sk (un c d) b)) = M (sk (i + 1) (sk 0 a)) (sk d (sk (un d c) b))
        congr 1
        · unfold sk; grind
        · unfold sk un; grind
      have hs : sgn c * sgn (i + un c d) = sgn (i + 1 + d) * sgn (un d c) := by
        rcases Nat.lt_or_gt_of_ne hcd with g | g
        · have e1 : un c d = d - 1 := by unfold un; rw [if_neg (by omega)]
          have e2 : un d c = c := by unfold un; rw [if_pos g]
          rw [e1, e2]
          have : sgn (i + 1 + d) = sgn (i + (d - 1)) := by
            rw [show i + 1 + d = i + (d - 1) + 1 + 1 by omega, sgn_succ, sgn_succ]; omega
          rw [this, Int.mul_comm]
        · have e1 : un c d = d := by unfold un; rw [if_pos g]
          have e2 : un d c = c - 1 := by unfold un; rw [if_neg (by omega)]
          rw [e1, e2]
          have h1 : sgn c = 0 - sgn (c - 1) := by rw [← sgn_succ]; congr 1; omega
          have h2 : sgn (i + 1 + d) = 0 - sgn (i + d) := by rw [show i + 1 + d = i + d + 1 by omega, sgn_succ]
          rw [h1, h2]
          grind
      show sgn c * M 0 c * (sgn (i + un c d) * M (i + 1) d * detI m (mn (mn M 0 c) i (un c d))) = sgn (i + 1 + d) * M (i + 1) d * (sgn (un d c) * M 0 c * detI m (mn (mn M (i + 1) d) 0 (un d c)))
      rw [hmat]
      generalize detI m (mn (mn M (i + 1) d) 0 (un d c)) = w
      grind
    have hL : detI (m + 1 + 1) M = Sm (m + 1 + 1) fun c => Sm (m + 1 + 1) fun d => if d = c then 0 else T c d := by
      show Sm (m + 1 + 1) (fun c => sgn c * M 0 c * detI (m + 1) (mn M 0 c)) = _
      refine sm_congr fun c hc => ?_
      rw [expand m (mn M 0 c) i hi, ← sm_mul, ← sum_skip (m := m + 1) (c := c) (by omega) (T c)]
      refine sm_congr fun k _ => ?_
      show sgn c * M 0 c * (sgn (i + k) * M (sk 0 i) (sk c k) * detI m (mn (mn M 0 c) i k)) = sgn c * M 0 c * (sgn (i + un c (sk c k)) * M (i + 1) (sk c k) * detI m (mn (mn M 0 c) i (un c (sk c k))))
      rw [un_sk]
      rfl
    have hR : (Sm (m + 1 + 1) fun d => sgn (i + 1 + d) * M (i + 1) d * detI (m + 1) (mn M (i + 1) d)) = Sm (m + 1 + 1) fun d => Sm (m + 1 + 1) fun c => if c = d then 0 else U c d := by
      refine sm_congr fun d hd => ?_
      have e : detI (m + 1) (mn M (i + 1) d) = Sm (m + 1) fun j => sgn j * mn M (i + 1) d 0 j * detI m (mn (mn M (i + 1) d) 0 j) := rfl
      rw [e, ← sm_mul, ← sum_skip (m := m + 1) (c := d) (by omega) (fun c => U c d)]
      refine sm_congr fun k _ => ?_
      show sgn (i + 1 + d) * M (i + 1) d * (sgn k * M (sk (i + 1) 0) (sk d k) * detI m (mn (mn M (i + 1) d) 0 k)) = sgn (i + 1 + d) * M (i + 1) d * (sgn (un d (sk d k)) * M 0 (sk d k) * detI m (mn (mn M (i + 1) d) 0 (un d (sk d k))))
      rw [un_sk]
      rfl
    rw [hL, hR, sm_swap]
    refine sm_congr fun d _ => sm_congr fun c _ => ?_
    by_cases e : c = d
    · rw [if_pos e.symm, if_pos e]
    · rw [if_neg (fun z => e z.symm), if_neg e, hTU c d e]
theorem det_alike : ∀ (m : Nat) (M : Mt) (i i' : Nat), i < m → i' < m → i ≠ i' → (∀ j, M i j = M i' j) → detI m M = 0
  | 0, _, _, _, h, _, _, _ => by omega
  | 1, _, _, _, _, _, _, _ => by omega
  | 2, M, i, i', h1, h2, hne, h => by
    have e : detI 2 M = M 0 0 * M 1 1 - M 0 1 * M 1 0 := by
      unfold detI
      rw [sm_succ, sm_succ, sm_zero]
      unfold detI
      rw [sm_succ, sm_zero, sm_succ, sm_zero]
      unfold detI mn sk sgn
      simp
      grind
    have h01 : ∀ j, M 0 j = M 1 j := by
      intro j
      rcases Nat.lt_or_gt_of_ne hne with g | g
      · have : i = 0 ∧ i' = 1 := by omega
        rw [this.1, this.2] at h
        exact h j
      · have : i = 1 ∧ i' = 0 := by omega
        rw [this.1, this.2] at h
        exact (h j).symm
    rw [e, h01 0, h01 1]
    grind
  | m + 3, M, i, i', h1, h2, hne, h => by
    obtain ⟨r, hr, hri, hri'⟩ : ∃ r, r < m + 3 ∧ r ≠ i ∧ r ≠ i' := by
      by_cases g0 : 0 ≠ i ∧ 0 ≠ i'
      · exact ⟨0, by omega, g0.1, g0.2⟩
      · by_cases g1 : 1 ≠ i ∧ 1 ≠ i'
        · exact ⟨1, by omega, g1.1, g1.2⟩
        · exact ⟨2, by omega, by omega, by omega⟩
    rw [expand (m + 2) M r (by omega)]
    refine sm_nought fun j _ => ?_
    have hz : detI (m + 2) (mn M r j) = 0 := by
      refine det_alike (m + 2) (mn M r j) (un r i) (un r i') ?_ ?_ ?_ fun b => ?_
      · unfold un; split <;> omega
      · unfold un; split <;> omega
      · intro e
        have := congrArg (sk r) e
        rw [sk_un hri.symm, sk_un hri'.symm] at this
        exact hne this
      · show M (sk r (un r i)) (sk j b) = M (sk r (un r i')) (sk j b)
        rw [sk_un hri.symm, sk_un hri'.symm]
        exact h _
    rw [hz, Int.mul_zero]
/-- what belongs to a place -/
def cof (m : Nat) (M : Mt) (i j : Nat) : Int := sgn (i + j) * detI m (mn M i j)
theorem cof_id (m : Nat) (M : Mt) {i i' : Nat} (hi : i ≤ m) (hi' : i' ≤ m) : (Sm (m + 1) fun j => M i' j * cof m M i j) = if i = i' then detI (m + 1) M else 0 := by
  by_cases e : i = i'
  · rw [if_pos e, expand m M i hi]
    refine sm_congr fun j _ => ?_
    unfold cof
    rw [e]
    grind
  · rw [if_neg e]
    let N : Mt := fun a b => if a = i then M i' b else M a b
    have h0 : detI (m + 1) N = 0 := det_alike (m + 1) N i i' (by omega) (by omega) e fun j => by
      show (if i = i then M i' j else M i j) = if i' = i then M i' j else M i' j
      rw [if_pos rfl]
      split <;> rfl
    rw [← h0, expand m N i hi]
    refine sm_congr fun j _ => ?_
    have e1 : mn N i j = mn M i j := mt_ext fun a b => by
      show (if sk i a = i then M i' (sk j b) else M (sk i a) (sk j b)) = _
      rw [if_neg (sk_ne i a)]
      rfl
    rw [e1]
    show M i' j * (sgn (i + j) * detI m (mn M i j)) = sgn (i + j) * (if i = i then M i' j else M i j) * detI m (mn M i j)
    rw [if_pos rfl]
    grind
/-! ### worths of polys by their numbers -/
def evC (c : Nat → Int) : Nat → Int → Int
  | 0, _ => c 0
  | d + 1, z => c 0 + z * evC (fun k => c (k + 1)) d z
def tl (c : Nat → Int) : Nat → List Int
  | 0 => [c 0]
  | d + 1 => c 0 :: tl (fun k => c (k + 1)) d
theorem evC_tl : ∀ (d : Nat) (c : Nat → Int) (z : Int), evI (tl c d) z = evC c d z
  | 0, c, z => by show c 0 + z * 0 = c 0; omega
  | d + 1, c, z => by
    show c 0 + z * evI (tl (fun k => c (k + 1)) d) z = _
    rw [evC_tl d]
    rfl
theorem tl_len : ∀ (d : Nat) (c : Nat → Int), (tl c d).length = d + 1
  | 0, _ => rfl
  | d + 1, c => by show (tl _ d).length + 1 = _; rw [tl_len d]
theorem tl_inj : ∀ (d : Nat) (c e : Nat → Int), tl c d = tl e d → ∀ k, k ≤ d → c k = e k
  | 0, c, e, h, k, hk => by
    have := (List.cons.inj h).1
    rw [show k = 0 by omega]
    exact this
  | d + 1, c, e, h, 0, _ => (List.cons.inj h).1
  | d + 1, c, e, h, k + 1, hk => tl_inj d _ _ (List.cons.inj h).2 k (by omega)
theorem evC_uniq {c e : Nat → Int} {d : Nat} (h : ∀ z, evC c d z = evC e d z) : ∀ k, k ≤ d → c k = e k :=
  tl_inj d c e (uniq _ _ 0 (by rw [tl_len, tl_len]) fun z _ => by rw [evC_tl, evC_tl, h z])
theorem evC_congr : ∀ {d : Nat} {c e : Nat → Int} {z : Int}, (∀ k, k ≤ d → c k = e k) → evC c d z = evC e d z
  | 0, _, _, _, h => h 0 (Nat.le_refl _)
  | d + 1, c, e, z, h => by
    show c 0 + z * evC _ d z = e 0 + z * evC _ d z
    rw [h 0 (Nat.zero_le _), evC_congr fun k hk => h (k + 1) (by omega)]
theorem evC_add : ∀ (d : Nat) (c e : Nat → Int) (z : Int), evC (fun k => c k + e k) d z = evC c d z + evC e d z
  | 0, _, _, _ => rfl
  | d + 1, c, e, z => by
    show c 0 + e 0 + z * evC (fun k => c (k + 1) + e (k + 1)) d z = c 0 + z * evC _ d z + (e 0 + z * evC _ d z)
    rw [evC_add d (fun k => c (k + 1)) (fun k => e (k + 1))]
    grind
theorem evC_mul : ∀ (d : Nat) (a : Int) (c : Nat → Int) (z : Int), evC (fun k => a * c k) d z = a * evC c d z
  | 0, _, _, _ => rfl
  | d + 1, a, c, z => by
    show a * c 0 + z * evC (fun k => a * c (k + 1)) d z = a * (c 0 + z * evC _ d z)
    rw [evC_mul d a (fun k => c (k + 1))]
    grind
theorem evC_zero : ∀ (d : Nat) (z : Int), evC (fun _ => 0) d z = 0
  | 0, _ => rfl
  | d + 1, z => by show 0 + z * evC _ d z = 0; rw [evC_zero d]; omega
theorem evC_sm (d : Nat) (z : Int) (f : Nat → Nat → Int) : ∀ n, evC (fun k => Sm n fun j => f j k) d z = Sm n fun j => evC (f j) d z
  | 0 => evC_zero d z
  | n + 1 => by
    rw [sm_succ, ← evC_sm d z f n, ← evC_add]
    exact evC_congr fun k _ => sm_succ n _
/-- moved on by one place -/
def sh (c : Nat → Int) : Nat → Int
  | 0 => 0
  | k + 1 => c k
theorem evC_sh (d : Nat) (c : Nat → Int) (z : Int) : evC (sh c) (d + 1) z = z * evC c d z := by
  show 0 + z * evC c d z = _
  omega
theorem evC_pad : ∀ (d : Nat) (c : Nat → Int) (z : Int), c (d + 1) = 0 → evC c (d + 1) z = evC c d z
  | 0, c, z, h => by show c 0 + z * c 1 = c 0; rw [show c 1 = 0 from h]; omega
  | d + 1, c, z, h => by
    show c 0 + z * evC (fun k => c (k + 1)) (d + 1) z = c 0 + z * evC (fun k => c (k + 1)) d z
    rw [evC_pad d (fun k => c (k + 1)) z h]
/-- a function that is a poly of a degree at most -/
def PolC (d : Nat) (f : Int → Int) : Prop := ∃ c : Nat → Int, (∀ k, d < k → c k = 0) ∧ ∀ z, f z = evC c d z
theorem polC_of {d : Nat} {f : Int → Int} {c : Nat → Int} (h : ∀ z, f z = evC c d z) : PolC d f :=
  ⟨fun k => if k ≤ d then c k else 0, fun k hk => if_neg (by omega), fun z => by rw [h z]; exact evC_congr fun k hk => (if_pos hk).symm⟩
theorem polC_sm {d n : Nat} {f : Nat → Int → Int} (h : ∀ j, j < n → PolC d (f j)) : PolC d fun z => Sm n fun j => f j z := by
  induction n with
  | zero => exact ⟨fun _ => 0, fun _ _ => rfl, fun z => (evC_zero d z).symm⟩
  | succ n ih =>
    obtain ⟨c, _, h2⟩ := ih fun j hj => h j (by omega)
    obtain ⟨e, _, g2⟩ := h n (by omega)
    have h2 : ∀ z, (Sm n fun j => f j z) = evC c d z := h2
    exact polC_of (c := fun k => c k + e k) fun z => by rw [sm_succ, h2 z, g2 z, evC_add]
theorem polC_lin {d : Nat} {f : Int → Int} (a b : Int) (h : PolC d f) : PolC (d + 1) fun z => (a + b * z) * f z := by
  obtain ⟨c, h1, h2⟩ := h
  refine polC_of (c := fun k => a * c k + b * sh c k) fun z => ?_
  rw [evC_add, evC_mul, evC_mul, evC_sh, evC_pad d c z (h1 _ (by omega)), h2 z]
  grind
theorem polC_mul {d : Nat} {f : Int → Int} (a : Int) (h : PolC d f) : PolC d fun z => a * f z := by
  obtain ⟨c, _, h2⟩ := h
  exact polC_of (c := fun k => a * c k) fun z => by rw [evC_mul, h2 z]
theorem polC_det : ∀ (m : Nat) (M : Int → Mt), (∀ i j, ∃ a b : Int, ∀ z, M z i j = a + b * z) → PolC m fun z => detI m (M z)
  | 0, _, _ => polC_of (c := fun _ => 1) fun z => rfl
  | m + 1, M, h => by
    show PolC (m + 1) fun z => Sm (m + 1) fun j => sgn j * M z 0 j * detI m (mn (M z) 0 j)
    refine polC_sm fun j _ => ?_
    obtain ⟨a, b, hab⟩ := h 0 j
    have ih := polC_det m (fun z => mn (M z) 0 j) fun i' j' => h _ _
    have := polC_lin (sgn j * a) (sgn j * b) ih
    refine (show (fun z => (sgn j * a + sgn j * b * z) * detI m (mn (M z) 0 j)) = fun z => sgn j * M z 0 j * detI m (mn (M z) 0 j) from funext fun z => ?_) ▸ this
    rw [hab z]
    grind
/-! ### the poly of a square -/
def chm (A : Mt) (z : Int) : Mt := fun i j => (if i = j then z else 0) - A i j
theorem chm_lin (A : Mt) (i j : Nat) : ∃ a b : Int, ∀ z, chm A z i j = a + b * z := by
  refine ⟨0 - A i j, if i = j then 1 else 0, fun z => ?_⟩
  unfold chm
  split <;> omega
theorem chm_mn (A : Mt) (i : Nat) (z : Int) : mn (chm A z) i i = chm (mn A i i) z := mt_ext fun a b => by
  show (if sk i a = sk i b then z else 0) - A (sk i a) (sk i b) = (if a = b then z else 0) - A (sk i a) (sk i b)
  by_cases e : a = b
  · rw [e, if_pos rfl, if_pos rfl]
  · rw [if_neg (fun h => e (sk_inj h)), if_neg e]
/-- rows of z ahead of a place, of y from it on -/
def mix (A : Mt) (y z : Int) (i : Nat) : Mt := fun a b => if a < i then chm A z a b else chm A y a b
theorem mix_lin (A : Mt) (y : Int) (i a b : Nat) : ∃ u v : Int, ∀ z, mix A y z i a b = u + v * z := by
  obtain ⟨u, v, h⟩ := chm_lin A a b
  by_cases e : a < i
  · exact ⟨u, v, fun z => by unfold mix; rw [if_pos e, h z]⟩
  · exact ⟨chm A y a b, 0, fun z => by unfold mix; rw [if_neg e]; omega⟩
theorem mix_step (m : Nat) (A : Mt) (y z : Int) {i : Nat} (hi : i ≤ m) : detI (m + 1) (mix A y z (i + 1)) - detI (m + 1) (mix A y z i) = (z - y) * detI m (mn (mix A y z i) i i) := by
  rw [expand m _ i hi, expand m (mix A y z i) i hi]
  have e1 : ∀ j, mn (mix A y z (i + 1)) i j = mn (mix A y z i) i j := fun j => mt_ext fun a b => by
    show (if sk i a < i + 1 then chm A z (sk i a) (sk j b) else chm A y (sk i a) (sk j b)) = if sk i a < i then chm A z (sk i a) (sk j b) else chm A y (sk i a) (sk j b)
    have := sk_ne i a
    by_cases e : sk i a < i
    · rw [if_pos e, if_pos (by omega)]
    · rw [if_neg e, if_neg (by omega)]
  have e2 : ∀ j, mix A y z (i + 1) i j = mix A y z i i j + if j = i then z - y else 0 := fun j => by
    show (if i < i + 1 then chm A z i j else chm A y i j) = (if i < i then chm A z i j else chm A y i j) + _
    rw [if_pos (by omega), if_neg (by omega)]
    unfold chm
    by_cases e : j = i
    · rw [if_pos e.symm, if_pos e.symm, if_pos e]; omega
    · rw [if_neg (fun h => e h.symm), if_neg (fun h => e h.symm), if_neg e]; omega
  have e3 : (Sm (m + 1) fun j => sgn (i + j) * mix A y z (i + 1) i j * detI m (mn (mix A y z (i + 1)) i j)) = (Sm (m + 1) fun j => sgn (i + j) * mix A y z i i j * detI m (mn (mix A y z i) i j)) + Sm (m + 1) fun j => if j = i then (fun j => sgn (i + j) * (z - y) * detI m (mn (mix A y z i) i j)) j else 0 := by
    rw [← sm_add]
    refine sm_congr fun j _ => ?_
    rw [e1, e2]
    by_cases e : j = i
    · rw [if_pos e, if_pos e]; grind
    · rw [if_neg e, if_neg e]; grind
  rw [e3, sm_one, if_pos (by omega)]
  have es : sgn (i + i) = 1 := by unfold sgn; rw [if_pos (by omega)]
  show _ + sgn (i + i) * (z - y) * _ - _ = _
  rw [es]
  grind
theorem mix_sum (m : Nat) (A : Mt) (y z : Int) : ∀ i, i ≤ m + 1 → detI (m + 1) (mix A y z i) - detI (m + 1) (mix A y z 0) = (z - y) * Sm i fun i => detI m (mn (mix A y z i) i i)
  | 0, _ => by rw [sm_zero]; omega
  | i + 1, h => by
    have h1 := mix_sum m A y z i (by omega)
    have h2 := mix_step m A y z (i := i) (by omega)
    rw [sm_succ]
    grind
/-- a poly less its worth at y is z - y times another one, which at y is its slope -/
def qo (y : Int) : Nat → (Nat → Int) → Nat → Int
  | 0, _, _ => 0
  | d + 1, c, 0 => evC (fun k => c (k + 1)) d y
  | d + 1, c, k + 1 => qo y d (fun k => c (k + 1)) k
theorem qo_ev (y : Int) : ∀ (d : Nat) (c : Nat → Int) (z : Int), evC c (d + 1) z - evC c (d + 1) y = (z - y) * evC (qo y (d + 1) c) d z
  | 0, c, z => by
    show c 0 + z * c 1 - (c 0 + y * c 1) = (z - y) * c 1
    grind
  | d + 1, c, z => by
    have ih := qo_ev y d (fun k => c (k + 1)) z
    show c 0 + z * evC (fun k => c (k + 1)) (d + 1) z - (c 0 + y * evC (fun k => c (k + 1)) (d + 1) y) = (z - y) * (evC (fun k => c (k + 1)) (d + 1) y + z * evC (fun k => qo y (d + 1) (fun k => c (k + 1)) k) d z)
    have e : evC (fun k => qo y (d + 1) (fun k => c (k + 1)) k) d z = evC (qo y (d + 1) fun k => c (k + 1)) d z := rfl
    rw [e]
    generalize evC (fun k => c (k + 1)) (d + 1) z = p at *
    generalize evC (fun k => c (k + 1)) (d + 1) y = q at *
    generalize evC (qo y (d + 1) fun k => c (k + 1)) d z = w at *
    grind
def slC (j : Nat) (c : Nat → Int) : Nat → Int := fun k => ((k + j : Nat) : Int) * c k
theorem qo_slope (y : Int) : ∀ (d : Nat) (c : Nat → Int), evC (qo y (d + 1) c) d y = evC (slC 1 fun k => c (k + 1)) d y
  | 0, c => by
    show c 1 = ((0 + 1 : Nat) : Int) * c 1
    omega
  | d + 1, c => by
    have ih := qo_slope y d fun k => c (k + 1)
    show evC (fun k => c (k + 1)) (d + 1) y + y * evC (qo y (d + 1) fun k => c (k + 1)) d y = evC (slC 1 fun k => c (k + 1)) (d + 1) y
    rw [ih]
    have e1 : evC (slC 1 fun k => c (k + 1)) (d + 1) y = evC (fun k => c (k + 1)) (d + 1) y + evC (sh (slC 1 fun k => c (k + 1 + 1))) (d + 1) y := by
      rw [← evC_add]
      refine evC_congr fun k hk => ?_
      cases k with
      | zero => show ((0 + 1 : Nat) : Int) * c (0 + 1) = c (0 + 1) + 0; omega
      | succ k =>
        show ((k + 1 + 1 : Nat) : Int) * c (k + 1 + 1) = c (k + 1 + 1) + ((k + 1 : Nat) : Int) * c (k + 1 + 1)
        rw [show ((k + 1 + 1 : Nat) : Int) = ((k + 1 : Nat) : Int) + 1 by omega]
        grind
    rw [e1, evC_sh]
end PR
end DL
set_option Elab.async false
set_option linter.all false
set_option maxRecDepth 100000
set_option maxHeartbeats 4000000
set_option autoImplicit false
/-! The poly of any square: traces, and the square put to it. -/
namespace DL
namespace PR
theorem evC_uniqN {c e : Nat → Int} {d : Nat} {N : Int} (h : ∀ z, N ≤ z → evC c d z = evC e d z) : ∀ k, k ≤ d → c k = e k :=
  tl_inj d c e (uniq _ _ N (by rw [tl_len, tl_len]) fun z hz => by rw [evC_tl, evC_tl, h z hz])
theorem chm_slope {m : Nat} {A : Mt} {c : Nat → Int} (hc : ∀ z, detI (m + 1) (chm A z) = evC c (m + 1) z) (y : Int) : (Sm (m + 1) fun i => detI m (mn (chm A y) i i)) = evC (slC 1 fun k => c (k + 1)) m y := by
  obtain ⟨e, _, he⟩ := polC_sm (d := m) (n := m + 1) (f := fun i z => detI m (mn (mix A y z i) i i)) fun i _ => polC_det m (fun z => mn (mix A y z i) i i) fun a b => mix_lin A y i _ _
  have h0 : ∀ z, detI (m + 1) (mix A y z 0) = evC c (m + 1) y := fun z => by
    rw [← hc y]
    exact det_congr fun i j _ _ => by unfold mix; rw [if_neg (by omega)]
  have h1 : ∀ z, detI (m + 1) (mix A y z (m + 1)) = evC c (m + 1) z := fun z => by
    rw [← hc z]
    exact det_congr fun i j hi _ => by unfold mix; rw [if_pos hi]
  have h2 : ∀ z, y + 1 ≤ z → evC e m z = evC (qo y (m + 1) c) m z := fun z hz => by
    have a := mix_sum m A y z (m + 1) (Nat.le_refl _)
    rw [h0, h1, qo_ev y m c z] at a
    have b := he z
    rw [← b]
    exact (Int.eq_of_mul_eq_mul_left (show z - y ≠ 0 by omega) a).symm
  have h3 := evC_uniqN h2
  have h4 : (Sm (m + 1) fun i => detI m (mn (chm A y) i i)) = Sm (m + 1) fun i => detI m (mn (mix A y y i) i i) := sm_congr fun i _ => by
    have : mix A y y i = chm A y := mt_ext fun a b => by unfold mix; split <;> rfl
    rw [this]
  have hey : (Sm (m + 1) fun i => detI m (mn (mix A y y i) i i)) = evC e m y := he y
  rw [h4, hey, evC_congr h3, qo_slope]
theorem sm_const (n : Nat) (c : Int) : (Sm n fun _ => c) = n * c := by
  induction n with
  | zero => rw [sm_zero]; omega
  | succ n ih => rw [sm_succ, ih, Int.natCast_add, Int.add_mul]; omega
theorem chm_c : ∀ (n : Nat) (A : Mt), ∃ c : Nat → Int, (∀ k, n < k → c k = 0) ∧ (∀ z, detI n (chm A z) = evC c n z) ∧ c n = 1
  | 0, A => ⟨fun k => if k = 0 then 1 else 0, fun k hk => if_neg (by omega), fun z => rfl, rfl⟩
  | m + 1, A => by
    obtain ⟨c, h1, h2⟩ := polC_det (m + 1) (fun z => chm A z) fun i j => chm_lin A i j
    refine ⟨c, h1, h2, ?_⟩
    have hi : ∀ i, ∃ e : Nat → Int, (∀ z, detI m (mn (chm A z) i i) = evC e m z) ∧ e m = 1 := fun i => by
      obtain ⟨e, _, g2, g3⟩ := chm_c m (mn A i i)
      exact ⟨e, fun z => by rw [chm_mn, g2 z], g3⟩
    let f := fun i => (hi i).choose
    have hf : ∀ i, (∀ z, detI m (mn (chm A z) i i) = evC (f i) m z) ∧ f i m = 1 := fun i => (hi i).choose_spec
    have h3 : ∀ k, k ≤ m → (Sm (m + 1) fun i => f i k) = slC 1 (fun k => c (k + 1)) k := evC_uniq fun y => by
      rw [evC_sm, ← chm_slope h2 y]
      exact sm_congr fun i _ => ((hf i).1 y).symm
    have h4 := h3 m (Nat.le_refl _)
    rw [sm_congr (g := fun _ => (1 : Int)) fun i _ => (hf i).2, sm_const] at h4
    have h4 : ((m + 1 : Nat) : Int) * 1 = ((m + 1 : Nat) : Int) * c (m + 1) := h4
    exact (Int.eq_of_mul_eq_mul_left (by omega) h4).symm
/-- the poly of a square: its worth is the determinant; by traces; nought put to the square -/
theorem fl_main (m : Nat) {A : Mt} (hA : Cl (m + 1) A) : ∃ P : List Int, P.length = m + 2 ∧ P.drop (m + 1) = [1] ∧ NW (fun k => tr (m + 1) (pw (m + 1) A k)) P ∧ evM (m + 1) A P = nou ∧ ∀ z, evI P z = detI (m + 1) (chm A z) := by
  obtain ⟨c, c1, c2, c3⟩ := chm_c (m + 1) A
  have hcf : ∀ i j, ∃ e : Nat → Int, (∀ k, m < k → e k = 0) ∧ ∀ z, cof m (chm A z) i j = evC e m z := fun i j =>
    polC_mul (sgn (i + j)) (polC_det m (fun z => mn (chm A z) i j) fun a b => chm_lin A _ _) |> fun ⟨e, he⟩ => ⟨fun k => if k ≤ m then e k else 0, fun k hk => if_neg (by omega), fun z => by
      have this : sgn (i + j) * detI m (mn (chm A z) i j) = evC e m z := he.2 z
      show sgn (i + j) * detI m (mn (chm A z) i j) = _
      rw [this]
      exact evC_congr fun k hk => (if_pos hk).symm⟩
  let Cf := fun i j => (hcf i j).choose
  have hz : ∀ i j k, m < k → Cf i j k = 0 := fun i j => (hcf i j).choose_spec.1
  have hv : ∀ i j z, cof m (chm A z) i j = evC (Cf i j) m z := fun i j => (hcf i j).choose_spec.2
  have id1 : ∀ i i', i ≤ m → i' ≤ m → ∀ k, k ≤ m + 1 → sh (Cf i i') k = (if i = i' then c k else 0) + Sm (m + 1) fun j => A i' j * Cf i j k := fun i i' hi hi' => evC_uniq fun z => by
    rw [evC_sh, evC_add, evC_sm, ← hv]
    have a := cof_id m (chm A z) hi hi'
    have e1 : (Sm (m + 1) fun j => chm A z i' j * cof m (chm A z) i j) = z * cof m (chm A z) i i' - Sm (m + 1) fun j => A i' j * cof m (chm A z) i j := by
      have b := sm_one (m + 1) i' fun j => z * cof m (chm A z) i j
      rw [if_pos (by omega)] at b
      rw [← b]
      have s := sm_add (m + 1) (fun j => chm A z i' j * cof m (chm A z) i j) fun j => A i' j * cof m (chm A z) i j
      have s2 : (Sm (m + 1) fun j => chm A z i' j * cof m (chm A z) i j + A i' j * cof m (chm A z) i j) = Sm (m + 1) fun j => if j = i' then z * cof m (chm A z) i j else 0 := sm_congr fun j _ => by
        unfold chm
        by_cases e : j = i'
        · rw [if_pos e.symm, if_pos e]; grind
        · rw [if_neg (fun h => e h.symm), if_neg e]; grind
      rw [s2] at s
      omega
    rw [e1] at a
    have e2 : (Sm (m + 1) fun j => evC (fun k => A i' j * Cf i j k) (m + 1) z) = Sm (m + 1) fun j => A i' j * cof m (chm A z) i j := sm_congr fun j _ => by
      rw [evC_mul, evC_pad m _ z (hz _ _ _ (by omega)), hv]
    rw [e2]
    by_cases e : i = i'
    · rw [if_pos e] at a
      have e3 : evC (fun k => if i = i' then c k else 0) (m + 1) z = detI (m + 1) (chm A z) := by
        rw [c2 z]
        exact evC_congr fun k _ => if_pos e
      rw [e3]
      omega
    · rw [if_neg e] at a
      have e3 : evC (fun k => if i = i' then c k else 0) (m + 1) z = 0 := by
        exact (evC_congr fun k _ => if_neg e).trans (evC_zero (m + 1) z)
      rw [e3]
      omega
  have id2 : ∀ k, k ≤ m → (Sm (m + 1) fun i => Cf i i k) = ((k + 1 : Nat) : Int) * c (k + 1) := evC_uniq (e := slC 1 fun k => c (k + 1)) fun z => by
    rw [evC_sm, ← chm_slope c2 z]
    refine sm_congr fun i _ => ?_
    rw [← hv]
    unfold cof
    have es : sgn (i + i) = 1 := by unfold sgn; rw [if_pos (by omega)]
    rw [es]
    omega
  let Mk : Nat → Mt := fun k a b => if a < m + 1 ∧ b < m + 1 then Cf b a k else 0
  have hMk : ∀ k, (k = 0 → nou = add (smu (c 0) (one (m + 1))) (mul (m + 1) A (Mk 0))) ∧ ∀ k', k = k' + 1 → k' ≤ m → Mk k' = add (smu (c k) (one (m + 1))) (mul (m + 1) A (Mk k)) := fun k => by
    have key : ∀ k, k ≤ m + 1 → ∀ a b, (if a < m + 1 ∧ b < m + 1 then sh (Cf b a) k else 0) = add (smu (c k) (one (m + 1))) (mul (m + 1) A (Mk k)) a b := fun k hk a b => by
      show _ = c k * (if a = b ∧ a < m + 1 then 1 else 0) + Sm (m + 1) fun j => A a j * Mk k j b
      by_cases g : a < m + 1 ∧ b < m + 1
      · rw [if_pos g, id1 b a (by omega) (by omega) k hk]
        have e1 : (Sm (m + 1) fun j => A a j * Mk k j b) = Sm (m + 1) fun j => A a j * Cf b j k := sm_congr fun j hj => by
          show A a j * (if j < m + 1 ∧ b < m + 1 then Cf b j k else 0) = _
          rw [if_pos ⟨hj, g.2⟩]
        rw [e1]
        by_cases e : b = a
        · rw [if_pos e, if_pos ⟨e.symm, g.1⟩]; omega
        · rw [if_neg e, if_neg (fun h => e h.1.symm)]; omega
      · rw [if_neg g]
        have e1 : (Sm (m + 1) fun j => A a j * Mk k j b) = 0 := sm_nought fun j hj => by
          by_cases g1 : a < m + 1
          · show A a j * (if j < m + 1 ∧ b < m + 1 then Cf b j k else 0) = 0
            rw [if_neg (fun h => g ⟨g1, h.2⟩), Int.mul_zero]
          · rw [hA a j (fun h => g1 h.1), Int.zero_mul]
        rw [e1, if_neg (fun h => g ⟨h.2, by rw [← h.1]; exact h.2⟩)]
        omega
    refine ⟨fun e => mt_ext fun a b => ?_, fun k' e hk' => mt_ext fun a b => ?_⟩
    · rw [← key 0 (by omega) a b]
      split <;> rfl
    · rw [e, ← key (k' + 1) (by omega) a b]
      rfl
  have hend : Mk (m + 1) = nou := mt_ext fun a b => by
    show (if a < m + 1 ∧ b < m + 1 then Cf b a (m + 1) else 0) = 0
    rw [hz b a (m + 1) (by omega)]
    split <;> rfl
  have hev : ∀ r k, k + r = m → evM (m + 1) A (tl (fun t => c (k + 1 + t)) r) = Mk k := fun r => by
    induction r with
    | zero =>
      intro k hk
      rw [((hMk (k + 1)).2 k rfl (by omega)), show k + 1 = m + 1 by omega, hend]
      rfl
    | succ r ih =>
      intro k hk
      rw [((hMk (k + 1)).2 k rfl (by omega)), ← ih (k + 1) (by omega)]
      have e : tl (fun t => c (k + 1 + t)) (r + 1) = c (k + 1) :: tl (fun t => c (k + 1 + 1 + t)) r := by
        show c (k + 1 + 0) :: tl (fun t => c (k + 1 + (t + 1))) r = _
        have : (fun t => c (k + 1 + (t + 1))) = fun t => c (k + 1 + 1 + t) := funext fun t => congrArg c (by omega)
        rw [this]
      rw [e]
      rfl
  have htr : ∀ k, k ≤ m → tr (m + 1) (mul (m + 1) A (Mk k)) = (((k : Nat) : Int) - ((m + 1 : Nat) : Int)) * c k := fun k hk => by
    have hone : tr (m + 1) (smu (c k) (one (m + 1))) = ((m + 1 : Nat) : Int) * c k := by
      rw [tr_smu]
      have : tr (m + 1) (one (m + 1)) = ((m + 1 : Nat) : Int) * 1 := by
        rw [← sm_const]
        exact sm_congr fun i hi => if_pos ⟨rfl, hi⟩
      rw [this]
      grind
    cases k with
    | zero =>
      have := congrArg (tr (m + 1)) ((hMk 0).1 rfl)
      rw [tr_add, hone] at this
      have h0 : tr (m + 1) nou = 0 := sm_nought fun _ _ => rfl
      rw [h0] at this
      grind
    | succ k =>
      have := congrArg (tr (m + 1)) ((hMk (k + 1)).2 k rfl (by omega))
      rw [tr_add, hone] at this
      have h2 := id2 k (by omega)
      have h3 : tr (m + 1) (Mk k) = Sm (m + 1) fun i => Cf i i k := sm_congr fun i hi => if_pos ⟨hi, hi⟩
      rw [h3, h2] at this
      grind
  have hnw : ∀ r k, k + r = m + 1 → NW (fun j => tr (m + 1) (pw (m + 1) A j)) (tl (fun t => c (k + t)) r) := fun r => by
    induction r with
    | zero =>
      intro k hk
      exact ⟨by show (0 : Int) + ((0 : Nat) : Int) * _ = 0; omega, trivial⟩
    | succ r ih =>
      intro k hk
      have e : tl (fun t => c (k + t)) (r + 1) = c k :: tl (fun t => c (k + 1 + t)) r := by
        show c (k + 0) :: tl (fun t => c (k + (t + 1))) r = _
        have : (fun t => c (k + (t + 1))) = fun t => c (k + 1 + t) := funext fun t => congrArg c (by omega)
        rw [this]
        rfl
      rw [e]
      refine ⟨?_, ih (k + 1) (by omega)⟩
      rw [← tr_evM hA, hev r k (by omega), tl_len]
      have e1 : pw (m + 1) A 1 = A := mul_one hA
      rw [e1, htr k (by omega)]
      have : ((r + 1 : Nat) : Int) = ((m + 1 : Nat) : Int) - ((k : Nat) : Int) := by omega
      rw [this]
      grind
  have eP : (fun t => c (0 + t)) = c := funext fun t => congrArg c (Nat.zero_add t)
  refine ⟨tl c (m + 1), tl_len _ _, ?_, ?_, ?_, fun z => by rw [evC_tl, c2 z]⟩
  · have hd : ∀ (d : Nat) (c : Nat → Int), (tl c d).drop d = [c d] := fun d => by
      induction d with
      | zero => intro c; rfl
      | succ d ih =>
        intro c
        show (tl (fun k => c (k + 1)) d).drop d = _
        rw [ih]
    rw [hd, c3]
  · have := hnw (m + 1) 0 (by omega)
    rw [eP] at this
    exact this
  · have e : tl c (m + 1) = c 0 :: tl (fun t => c (0 + 1 + t)) m := by
      show c 0 :: tl (fun k => c (k + 1)) m = _
      have : (fun k => c (k + 1)) = fun t => c (0 + 1 + t) := funext fun t => congrArg c (by omega)
      rw [this]
    rw [e]
    show add (smu (c 0) (one (m + 1))) (mul (m + 1) A (evM (m + 1) A (tl (fun t => c (0 + 1 + t)) m))) = nou
    rw [hev m 0 (by omega)]
    exact ((hMk 0).1 rfl).symm
end PR
end DL
set_option Elab.async false
set_option linter.all false
set_option maxRecDepth 100000
set_option maxHeartbeats 4000000
set_option autoImplicit false
/-! Plain part: what a mirror answers, told by what must hold of its answer. -/
namespace DL
open PySem L2
def Res.post {A : Type} (r : Res A) (Q : A → Sto → Prop) : Prop := match r with
  | .ok a S => Q a S
  | _ => False
def Out.post (o : Out) (nx : Sl → Sto → Prop) (rt : D → Sto → Prop) (bk ct : Sl → Sto → Prop) : Prop := match o with
  | .nx δ S => nx δ S
  | .rt d S => rt d S
  | .bk δ S => bk δ S
  | .ct δ S => ct δ S
  | _ => False
abbrev NoS : Sl → Sto → Prop := fun _ _ => False
section
variable {A A' : Type} {r : Res A} {f : A → Sto → Res A'} {Q : A → Sto → Prop} {Q' : A' → Sto → Prop} {δ : Sl} {S : Sto} {QD : D → Sto → Prop} {QL : List D → Sto → Prop} {QB : Bool → Sto → Prop} {QS : Sl → Sto → Prop} {N B C : Sl → Sto → Prop} {T : D → Sto → Prop}
theorem Res.post.ok {a : A} (h : Q a S) : (Res.ok a S).post Q := h
theorem Res.post.ex (h : r.post Q) : ∃ a S, r = .ok a S ∧ Q a S := by
  cases r with
  | ok a S => exact ⟨a, S, rfl, h⟩
  | err => exact h.elim
  | stuck => exact h.elim
theorem Res.post.mono {Q1 : A → Sto → Prop} (h : r.post Q1) (k : ∀ a S, Q1 a S → Q a S) : r.post Q := by
  cases r with
  | ok a S => exact k a S h
  | err => exact h.elim
  | stuck => exact h.elim
theorem Res.post.of_eq {a : A} (h : r = .ok a S) (q : Q a S) : r.post Q := by rw [h]; exact q
theorem Out.post.mono {o : Out} {N1 B1 C1 : Sl → Sto → Prop} {T1 : D → Sto → Prop} (h : o.post N1 T1 B1 C1) (k1 : ∀ δ S, N1 δ S → N δ S) (k2 : ∀ d S, T1 d S → T d S) (k3 : ∀ δ S, B1 δ S → B δ S) (k4 : ∀ δ S, C1 δ S → C δ S) : o.post N T B C := by
  cases o with
  | nx δ S => exact k1 _ _ h
  | rt δ S => exact k2 _ _ h
  | bk δ S => exact k3 _ _ h
  | ct δ S => exact k4 _ _ h
  | err => exact h.elim
  | stuck => exact h.elim
theorem p_bind (h : r.post fun a S1 => (f a S1).post Q') : (r.bind f).post Q' := by
  cases r with
  | ok a S => exact h
  | err => exact h.elim
  | stuck => exact h.elim
theorem p_lift {o : Option A} {a : A} (h : o = some a) (q : Q a S) : (Res.lift o S).post Q := by rw [h]; exact q
theorem p_out {g : A → Sto → Out} (h : r.post fun a S1 => (g a S1).post N T B C) : (r.out δ g).post N T B C := by
  cases r with
  | ok a S => exact h
  | err => exact h.elim
  | stuck => exact h.elim
/-! expressions -/
theorem p_var {i : Nat} {d : D} (e : δ[i]? = some (some d)) (h : QD d S) : (rVar i δ S).post QD := by unfold rVar; rw [e]; exact h
theorem p_c {d : D} (h : QD d S) : (rC d δ S).post QD := h
theorem p_un {g : Sto → D → Option D} {a : RE} (h : (a δ S).post fun x S1 => (Res.lift (g S1 x) S1).post QD) : (rUn g a δ S).post QD := p_bind h
theorem p_bin {g : Sto → D → D → Option D} {a b : RE} (h : (a δ S).post fun x S1 => (b δ S1).post fun y S2 => (Res.lift (g S2 x y) S2).post QD) : (rBin g a b δ S).post QD := p_bind (h.mono fun _ _ q => p_bind q)
theorem p_as {g : Sto → List D → Option D} {a : RA} (h : (a δ S).post fun x S1 => (Res.lift (g S1 x) S1).post QD) : (rAs g a δ S).post QD := p_bind h
theorem p_nil (h : QL [] S) : (rNil δ S).post QL := h
theorem p_cons {a : RE} {b : RA} (h : (a δ S).post fun x S1 => (b δ S1).post fun ys S2 => QL (x :: ys) S2) : (rCons a b δ S).post QL := p_bind (h.mono fun _ _ q => p_bind (q.mono fun _ _ q => q))
theorem p_call {m : Mir} {a : RA} (h : (a δ S).post fun xs S1 => (m xs S1).post QD) : (rCall m a δ S).post QD := p_bind h
theorem p_if {c : RB} {a b : RE} (h : (c δ S).post fun k S1 => (k = true → (a δ S1).post QD) ∧ (k = false → (b δ S1).post QD)) : (rIf c a b δ S).post QD := p_bind (h.mono fun k _ q => by
  cases k with
  | true => exact q.1 rfl
  | false => exact q.2 rfl)
theorem p_own {a : RE} (h : (a δ S).post fun d S1 => QD (.ptr S1.length) (S1 ++ [d])) : (rOwn a δ S).post QD := p_bind (h.mono fun _ _ q => q)
theorem p_tup {a : RA} (h : (a δ S).post fun xs S1 => xs.length ≤ sizeLine ∧ QD (.tup xs) S1) : (rTup a δ S).post QD := p_bind (h.mono fun _ _ q => by rw [if_pos q.1]; exact q.2)
theorem p_lst {a : RA} (h : (a δ S).post fun xs S1 => xs.length ≤ sizeLine ∧ QD (.lst xs) S1) : (rLst a δ S).post QD := p_bind (h.mono fun _ _ q => by rw [if_pos q.1]; exact q.2)
theorem p_keep {a : RE} (h : (a δ S).post fun d S1 => ∃ ds, d = .lst ds ∧ QD (.lst ds) S1) : (rKeep a δ S).post QD := p_bind (h.mono fun d _ ⟨ds, e, q⟩ => by subst e; exact q)
theorem p_tru {a : RE} (h : (a δ S).post fun d S1 => (Res.lift (truth S1 d) S1).post QB) : (bTru a δ S).post QB := p_bind h
theorem p_and {a b : RB} (h : (a δ S).post fun k S1 => (k = true → (b δ S1).post QB) ∧ (k = false → QB false S1)) : (bAnd a b δ S).post QB := p_bind (h.mono fun k _ q => by
  cases k with
  | true => exact q.1 rfl
  | false => exact q.2 rfl)
theorem p_or {a b : RB} (h : (a δ S).post fun k S1 => (k = true → QB true S1) ∧ (k = false → (b δ S1).post QB)) : (bOr a b δ S).post QB := p_bind (h.mono fun k _ q => by
  cases k with
  | true => exact q.1 rfl
  | false => exact q.2 rfl)
theorem p_not {a : RB} (h : (a δ S).post fun k S1 => QB (!k) S1) : (bNot a δ S).post QB := p_bind (h.mono fun _ _ q => q)
theorem p_val {a : RE} (h : (a δ S).post fun d S1 => ∃ k, d = .bl k ∧ QB k S1) : (bVal a δ S).post QB := p_bind (h.mono fun _ _ ⟨k, e, q⟩ => by subst e; exact q)
theorem p_rand {a b : RE} (h : (a δ S).post fun x S1 => ∃ k, truth S1 x = some k ∧ (k = true → (b δ S1).post QD) ∧ (k = false → QD x S1)) : (rAnd a b δ S).post QD := p_bind (h.mono fun x S1 ⟨k, e, q⟩ => p_bind (p_lift e (by
  cases k with
  | true => exact q.1 rfl
  | false => exact q.2 rfl)))
theorem p_ror {a b : RE} (h : (a δ S).post fun x S1 => ∃ k, truth S1 x = some k ∧ (k = true → QD x S1) ∧ (k = false → (b δ S1).post QD)) : (rOr a b δ S).post QD := p_bind (h.mono fun x S1 ⟨k, e, q⟩ => p_bind (p_lift e (by
  cases k with
  | true => exact q.1 rfl
  | false => exact q.2 rfl)))
theorem p_rnot {a : RE} (h : (a δ S).post fun x S1 => ∃ k, truth S1 x = some k ∧ QD (.bl (!k)) S1) : (rNot a δ S).post QD := p_bind (h.mono fun x S1 ⟨k, e, q⟩ => p_bind (p_lift e q))
theorem p_chain {g g' : Sto → D → D → Option D} {a b c : RE} (h : (a δ S).post fun x S1 => (b δ S1).post fun y S2 => ∃ k, g S2 x y = some (.bl k) ∧ (k = true → (c δ S2).post fun u S4 => (Res.lift (g' S4 y u) S4).post QD) ∧ (k = false → QD (.bl false) S2)) : (rChain g g' a b c δ S).post QD :=
  p_bind (h.mono fun x S1 q => p_bind (q.mono fun y S2 ⟨k, e, q⟩ => p_bind (p_lift e (by
    cases k with
    | true => exact p_bind (q.1 rfl)
    | false => exact q.2 rfl))))
theorem p_meth {T : String} {g : Sto → D → List D → Option (D × Sto)} {a : RE} {as : RA} (h : (a δ S).post fun x S1 => isTy T S1 x = true ∧ (as δ S1).post fun ys S2 => ∃ z S3, g S2 x ys = some (z, S3) ∧ QD z S3) : (rMeth T g a as δ S).post QD :=
  p_bind (h.mono fun x S1 ⟨e, q⟩ => by rw [if_pos e]; exact p_bind (q.mono fun ys S2 ⟨z, S3, e, q⟩ => by rw [e]; exact q))
/-! statements -/
theorem s_next (h : N δ S) : (sNext δ S).post N T B C := h
theorem s_seq {a b : RS} (h : (a δ S).post (fun δ1 S1 => (b δ1 S1).post N T B C) T B C) : (sSeq a b δ S).post N T B C := by
  unfold sSeq
  cases q : a δ S with
  | nx δ1 S1 => rw [q] at h; exact h
  | _ => rw [q] at h; exact h
theorem s_asg {e : RE} {g : RG} (h : (e δ S).post fun d S1 => (g d δ S1).post fun δ1 S2 => N δ1 S2) : (sAsg e g δ S).post N T B C := p_out (h.mono fun _ _ q => p_out (q.mono fun _ _ q => q))
theorem s_name {i : Nat} {d : D} (hi : i < δ.length) (h : QS (δ.set i (some d)) S) : (gName i d δ S).post QS := by unfold gName; rw [if_pos hi]; exact h
theorem s_gtup {u : List D → Sl → Sto → Res Sl} {d : D} {ds : List D} (e : deref S d = .tup ds) (h : (u ds δ S).post QS) : (gTup u d δ S).post QS := by unfold gTup; rw [e]; exact h
theorem s_gnil (h : QS δ S) : (gNil [] δ S).post QS := h
theorem s_gcons {g : RG} {u : List D → Sl → Sto → Res Sl} {d : D} {r : List D} (h : (g d δ S).post fun δ1 S1 => (u r δ1 S1).post QS) : (gCons g u (d :: r) δ S).post QS := p_bind h
theorem s_expr {e : RE} (h : (e δ S).post fun _ S1 => N δ S1) : (sExpr e δ S).post N T B C := p_out (h.mono fun _ _ q => q)
theorem s_ret {e : RE} (h : (e δ S).post fun d S1 => T d S1) : (sRet e δ S).post N T B C := p_out (h.mono fun _ _ q => q)
theorem s_if {c : RB} {a b : RS} (h : (c δ S).post fun k S1 => (k = true → (a δ S1).post N T B C) ∧ (k = false → (b δ S1).post N T B C)) : (sIf c a b δ S).post N T B C := p_out (h.mono fun k _ q => by
  cases k with
  | true => exact q.1 rfl
  | false => exact q.2 rfl)
theorem s_brk (h : B δ S) : (sBreak δ S).post N T B C := h
theorem s_cont (h : C δ S) : (sCont δ S).post N T B C := h
theorem s_par {i j : Nat} {a : RA} (h : (a δ S).post fun xs S1 => ∃ x y, xs = [x, y] ∧ i < δ.length ∧ j < δ.length ∧ N ((δ.set i (some x)).set j (some y)) S1) : (sPar i j a δ S).post N T B C :=
  p_out (h.mono fun xs S1 ⟨x, y, e, h1, h2, q⟩ => by subst e; dsimp only; rw [if_pos ⟨h1, h2⟩]; exact q)
theorem s_for {it : RA} {g : RG} {b : RS} (h : (it δ S).post fun xs S1 => (forL g b xs δ S1).post N T B C) : (sFor it g b δ S).post N T B C := p_out h
/-- the loop's law: I holds ahead of each turn -/
theorem s_forL {g : RG} {b : RS} (I : List D → Sl → Sto → Prop) (step : ∀ x xs δ S, I (x :: xs) δ S → (g x δ S).post fun δ1 S1 => (b δ1 S1).post (fun δ2 S2 => I xs δ2 S2) T N fun δ2 S2 => I xs δ2 S2) (fin : ∀ δ S, I [] δ S → N δ S) :
    ∀ (xs : List D) (δ : Sl) (S : Sto), I xs δ S → (forL g b xs δ S).post N T B C
  | [], δ, S, h => fin δ S h
  | x :: xs, δ, S, h => by
    unfold forL
    refine p_out ((step x xs δ S h).mono fun δ1 S1 q => ?_)
    cases e : b δ1 S1 with
    | nx δ2 S2 => rw [e] at q; exact s_forL I step fin xs δ2 S2 q
    | ct δ2 S2 => rw [e] at q; exact s_forL I step fin xs δ2 S2 q
    | bk δ2 S2 => rw [e] at q; exact q
    | rt d S2 => rw [e] at q; exact q
    | err => rw [e] at q; exact q.elim
    | stuck => rw [e] at q; exact q.elim
theorem s_while {fuel : Sl → Sto → Nat} {c : RB} {b : RS} (h : (whileL c b (fuel δ S) δ S).post N T B C) : (sWhile fuel c b δ S).post N T B C := h
/-- I n: at most n turns are left -/
theorem s_whileL {c : RB} {b : RS} (I : Nat → Sl → Sto → Prop) (step : ∀ n δ S, I n δ S → (c δ S).post fun k S1 => (k = true → ∃ m, n = m + 1 ∧ (b δ S1).post (fun δ2 S2 => I m δ2 S2) T N fun δ2 S2 => I m δ2 S2) ∧ (k = false → N δ S1)) :
    ∀ (n m : Nat) (δ : Sl) (S : Sto), I n δ S → n < m → (whileL c b m δ S).post N T B C
  | _, 0, _, _, _, hm => absurd hm (Nat.not_lt_zero _)
  | n, m + 1, δ, S, h, hm => by
    unfold whileL
    refine p_out ((step n δ S h).mono fun k S1 q => ?_)
    cases k with
    | false => exact q.2 rfl
    | true =>
      obtain ⟨n', rfl, q'⟩ := q.1 rfl
      clear q
      rw [if_pos rfl]
      cases e : b δ S1 with
      | nx δ2 S2 => rw [e] at q'; exact s_whileL I step n' m δ2 S2 q' (by omega)
      | ct δ2 S2 => rw [e] at q'; exact s_whileL I step n' m δ2 S2 q' (by omega)
      | bk δ2 S2 => rw [e] at q'; exact q'
      | rt d S2 => rw [e] at q'; exact q'
      | err => rw [e] at q'; exact q'.elim
      | stuck => rw [e] at q'; exact q'.elim
/-! walks -/
theorem p_seq {a : RE} (h : (a δ S).post fun x S1 => (∃ ds, x = .lst ds ∧ QL ds S1) ∨ (∃ ds, x = .tup ds ∧ QL ds S1) ∨ ∃ z, x = .str z ∧ QL (z.cps.toList.map fun c => .str ⟨#[c]⟩) S1) : (rSeq a δ S).post QL :=
  p_bind (h.mono fun x S1 q => by rcases q with ⟨ds, e, q⟩ | ⟨ds, e, q⟩ | ⟨z, e, q⟩ <;> subst e <;> exact q)
theorem p_enum {a : RA} (h : (a δ S).post fun xs S1 => ∃ ds, xs = [.lst ds] ∧ QL (enumD 0 ds) S1) : (rEnum a δ S).post QL := p_bind (h.mono fun _ _ ⟨ds, e, q⟩ => by subst e; exact q)
theorem p_range1 {a : RA} (h : (a δ S).post fun xs S1 => ∃ j, xs = [.int j] ∧ -(2 ^ 62) ≤ j ∧ j < 2 ^ 62 ∧ QL (rangeD 0 j) S1) : (rRange a δ S).post QL := p_bind (h.mono fun _ _ ⟨j, e, h1, h2, q⟩ => by subst e; dsimp only; rw [if_pos ⟨h1, h2⟩]; exact q)
theorem p_range2 {a : RA} (h : (a δ S).post fun xs S1 => ∃ i j, xs = [.int i, .int j] ∧ -(2 ^ 62) ≤ i ∧ i < 2 ^ 62 ∧ -(2 ^ 62) ≤ j ∧ j < 2 ^ 62 ∧ QL (rangeD i j) S1) : (rRange a δ S).post QL :=
  p_bind (h.mono fun _ _ ⟨i, j, e, h1, h2, h3, h4, q⟩ => by subst e; dsimp only; rw [if_pos ⟨h1, h2, h3, h4⟩]; exact q)
/-- the loop's law of a comprehension: I left done -/
theorem p_lcL {g : RG} {t : RB} {e : RE} (I : List D → List D → Sto → Prop) (step : ∀ x xs acc S, I (x :: xs) acc S → (g x δ S).post fun δ1 S1 => (t δ1 S1).post fun k S2 => (k = true → (e δ1 S2).post fun y S3 => I xs (acc ++ [y]) S3) ∧ (k = false → I xs acc S2)) :
    ∀ (xs acc : List D) (S : Sto), I xs acc S → (lcL g t e xs δ S).post fun ys S' => I [] (acc ++ ys) S'
  | [], acc, S, h => by
    show I [] (acc ++ []) S
    rw [List.append_nil]; exact h
  | x :: xs, acc, S, h => by
    unfold lcL
    refine p_bind ((step x xs acc S h).mono fun δ1 S1 q => p_bind (q.mono fun k S2 q => ?_))
    cases k with
    | true =>
      rw [if_pos rfl]
      refine p_bind ((q.1 rfl).mono fun y S3 q => p_bind ((p_lcL I step xs (acc ++ [y]) S3 q).mono fun ys S4 q => ?_))
      show I [] (acc ++ y :: ys) S4
      rw [List.append_assoc] at q
      exact q
    | false => exact p_lcL I step xs acc S2 (q.2 rfl)
theorem p_lc {it : RA} {g : RG} {vs : List Nat} {t : RB} {e : RE} (h : (it δ S).post fun xs S1 => (lcL g t e xs (wipeD δ vs) S1).post fun ys S2 => ys.length ≤ sizeLine ∧ QD (.lst ys) S2) : (rLc it g vs t e δ S).post QD :=
  p_bind (h.mono fun xs S1 q => p_bind (by
    obtain ⟨ys, S2, e1, e2⟩ := q.ex
    rw [e1]
    show (if ys.length ≤ sizeLine then Res.ok (D.lst ys) S2 else .stuck).post QD
    rw [if_pos e2.1]; exact e2.2))
theorem p_yes (h : QB true S) : (bYes δ S).post QB := h
/-! a def -/
theorem m_def {n : Nat} {b : RS} {ds : List D} (h : (b (ds.map some ++ List.replicate (n - ds.length) none) S).post
    (fun _ S1 => closedL S.length (S1.take S.length) = true ∧ QD .non (S1.take S.length)) (fun d S1 => (D.closed S.length d && closedL S.length (S1.take S.length)) = true ∧ QD d (S1.take S.length)) NoS NoS) : (mDef n b ds S).post QD := by
  unfold mDef
  cases q : b (ds.map some ++ List.replicate (n - ds.length) none) S with
  | nx δ S1 => rw [q] at h; dsimp only; rw [if_pos h.1]; exact h.2
  | rt d S1 => rw [q] at h; dsimp only; rw [if_pos h.1]; exact h.2
  | _ => rw [q] at h; exact h.elim
end
end DL
set_option Elab.async false
set_option linter.all false
set_option maxRecDepth 100000
set_option maxHeartbeats 4000000
set_option autoImplicit false
/-! Plain part: operations on what is known. -/
namespace DL
open PySem L2
section
variable {S : Sto} {i j : Int} {x y : Str} {b c : Bool} {Q : D → Sto → Prop} {QB : Bool → Sto → Prop}
theorem o_add (h : Q (.int (i + j)) S) : (Res.lift (gAdd S (.int i) (.int j)) S).post Q := h
theorem o_sub (h : Q (.int (i - j)) S) : (Res.lift (gSub S (.int i) (.int j)) S).post Q := h
theorem o_mul (f : mulFits i j = true) (h : Q (.int (i * j)) S) : (Res.lift (gMul S (.int i) (.int j)) S).post Q := p_lift (by unfold gMul; dsimp only; rw [if_pos f]) h
theorem o_mod (f : j ≠ 0) (h : Q (.int (i.fmod j)) S) : (Res.lift (gMod S (.int i) (.int j)) S).post Q := p_lift (by unfold gMod; dsimp only; rw [if_pos f]) h
theorem o_div (f : j ≠ 0 ∧ j.natAbs.log2 < 9000) (h : Q (.int (i.fdiv j)) S) : (Res.lift (gDiv S (.int i) (.int j)) S).post Q := p_lift (by unfold gDiv; dsimp only; rw [if_pos f]) h
theorem o_pow (f : 0 ≤ j ∧ j ≤ 1000000 ∧ i.natAbs < 2 ^ 64) (h : Q (.int (i ^ j.toNat)) S) : (Res.lift (gPow S (.int i) (.int j)) S).post Q := p_lift (by unfold gPow; dsimp only; rw [if_pos ⟨f.1, .inl f.2⟩]) h
theorem o_neg (h : Q (.int (-i)) S) : (Res.lift (gNeg S (.int i)) S).post Q := h
theorem o_lt (h : Q (.bl (decide (i < j))) S) : (Res.lift (gLt S (.int i) (.int j)) S).post Q := h
theorem o_le (h : Q (.bl (decide (i ≤ j))) S) : (Res.lift (gLe S (.int i) (.int j)) S).post Q := h
theorem o_gt (h : Q (.bl (decide (j < i))) S) : (Res.lift (gGt S (.int i) (.int j)) S).post Q := h
theorem o_ge (h : Q (.bl (decide (j ≤ i))) S) : (Res.lift (gGe S (.int i) (.int j)) S).post Q := h
theorem o_eqg {d e : D} {u v : PyData} (h1 : toPy S (deref S d) = some u) (h2 : toPy S (deref S e) = some v) (h3 : SeqAt.shaped u = true) (h4 : SeqAt.shaped v = true) (h : Q (.bl (PyData.eqv u v)) S) : (Res.lift (gEq S d e) S).post Q :=
  p_lift (by unfold gEq eqD; rw [h1, h2]; dsimp only; rw [h3, h4]; rfl) h
theorem o_neg_ {d e : D} {u v : PyData} (h1 : toPy S (deref S d) = some u) (h2 : toPy S (deref S e) = some v) (h3 : SeqAt.shaped u = true) (h4 : SeqAt.shaped v = true) (h : Q (.bl (!PyData.eqv u v)) S) : (Res.lift (gNe S d e) S).post Q :=
  p_lift (by unfold gNe eqD; rw [h1, h2]; dsimp only; rw [h3, h4]; rfl) h
theorem shaped_int : SeqAt.shaped (.int i) = true := by unfold SeqAt.shaped; simp [PyData.canLay0, PyData.depth]
theorem o_eqI (h : Q (.bl (i == j)) S) : (Res.lift (gEq S (.int i) (.int j)) S).post Q := o_eqg rfl rfl shaped_int shaped_int (by simpa [PyData.eqv] using h)
theorem o_neI (h : Q (.bl (!(i == j))) S) : (Res.lift (gNe S (.int i) (.int j)) S).post Q := o_neg_ rfl rfl shaped_int shaped_int (by simpa [PyData.eqv] using h)
theorem o_abs (h : Q (.int i.natAbs) S) : (Res.lift (gAbs S [.int i]) S).post Q := p_lift (a := .int i.natAbs) (by unfold gAbs; dsimp only; congr 2; omega) h
theorem o_tru (h : QB b S) : (Res.lift (truth S (.bl b)) S).post QB := h
theorem o_ixT {xs : List D} {d : D} (e : atI xs i = some d) (h : Q d S) : (Res.lift (gIx S (.tup xs) (.int i)) S).post Q := p_lift e h
theorem o_ixL {xs : List D} {d : D} (e : atI xs i = some d) (h : Q d S) : (Res.lift (gIx S (.lst xs) (.int i)) S).post Q := p_lift e h
theorem p_true {A B : Prop} (h : A) : (true = true → A) ∧ (true = false → B) := ⟨fun _ => h, fun z => nomatch z⟩
theorem p_false {A B : Prop} (h : B) : (false = true → A) ∧ (false = false → B) := ⟨fun z => (nomatch z), fun _ => h⟩
theorem p_ex {A : Type} {x : A} {R T : A → Prop} (e : R x) (h : T x) : ∃ x, R x ∧ T x := ⟨x, e, h⟩
theorem p_ex2 {A B : Type} {x : A} {y : B} {R T : A → B → Prop} (e : R x y) (h : T x y) : ∃ x y, R x y ∧ T x y := ⟨x, y, e, h⟩
theorem p_var2 {i : Nat} {δ : Sl} (h : ∃ d, δ[i]? = some (some d) ∧ Q d S) : (rVar i δ S).post Q := let ⟨_, e, q⟩ := h; p_var e q
theorem p_isT {k : Bool} {A B : Prop} (e : k = true) (h : A) : (k = true → A) ∧ (k = false → B) := by subst e; exact p_true h
theorem p_isF {k : Bool} {A B : Prop} (e : k = false) (h : B) : (k = true → A) ∧ (k = false → B) := by subst e; exact p_false h
end
local macro_rules | `(tactic| walk_at "1") => `(tactic| with_reducible first
  | refine s_seq ?_ | refine s_asg ?_ | refine s_ret ?_ | refine s_if ?_ | refine s_expr ?_ | refine s_next ?_ | refine s_brk ?_ | refine s_cont ?_ | refine s_for ?_ | refine s_while ?_
  | refine p_c ?_ | refine p_bin ?_ | refine p_as ?_ | refine p_cons ?_ | refine p_nil ?_ | refine p_un ?_ | refine p_call ?_ | refine p_if ?_ | refine p_own ?_
  | refine p_keep ?_ | refine p_tru ?_ | refine p_and ?_ | refine p_or ?_ | refine p_not ?_ | refine p_val ?_ | refine p_rand ?_ | refine p_ror ?_ | refine p_rnot ?_ | refine p_chain ?_
  | refine o_add ?_ | refine o_sub ?_ | refine o_lt ?_ | refine o_le ?_ | refine o_gt ?_ | refine o_ge ?_ | refine o_neg ?_ | refine o_eqI ?_ | refine o_neI ?_ | refine o_abs ?_ | refine o_tru ?_ | refine p_true ?_ | refine p_false ?_
  | refine s_par ?_ | refine p_yes ?_ | refine p_lc ?_ | refine p_seq ?_ | refine s_gnil ?_ | refine s_gcons ?_)
local macro_rules | `(tactic| walk_at "2") => `(tactic| first
  | walk_at "1"
  | (with_reducible refine p_var2 ?_)
  | ((with_reducible refine s_name ?_ ?_); (· exact Nat.le_of_ble_eq_true rfl); dsimp only [List.set_cons_zero, List.set_cons_succ])
  | (with_reducible refine p_tup ?_) | ((with_reducible refine ⟨?_, ?_⟩); (· exact Nat.le_of_ble_eq_true rfl))
  | ((with_reducible refine p_ex2 (x := ?_) (y := ?_) ?_ ?_); rotate_left; rotate_left; (· rfl); refine ⟨?_, ?_, ?_⟩; (· exact Nat.le_of_ble_eq_true rfl); (· exact Nat.le_of_ble_eq_true rfl); dsimp only [List.set_cons_zero, List.set_cons_succ])
  | ((with_reducible refine p_isT ?_ ?_); (· rfl)) | ((with_reducible refine p_isF ?_ ?_); (· rfl))
  | ((with_reducible refine p_ex (x := ?_) ?_ ?_); rotate_left; (· rfl)))
/-! a trial: the greatest common divisor -/
end DL
set_option Elab.async false
set_option linter.all false
set_option maxRecDepth 100000
set_option maxHeartbeats 4000000
set_option autoImplicit false
/-! Plain part: comprehensions that leave the store, answers that leave it. -/
namespace DL
open PySem L2
/-- an answer that leaves the store as it is -/
theorem same_of {m : Mir} {ds : List D} {d : D} {S : Sto} (h : (m ds S).post fun z S' => z = d ∧ S' = S) : m ds S = .ok d S := by
  obtain ⟨a, S1, e, rfl, rfl⟩ := h.ex
  exact e
theorem exact_of {A : Type} {r : Res A} {a : A} {S : Sto} (h : r.post fun z S' => z = a ∧ S' = S) : r = .ok a S := by
  obtain ⟨a, S1, e, rfl, rfl⟩ := h.ex
  exact e
/-- a store in which nothing that is made now is told -/
def Sane (S : Sto) : Prop := closedL S.length S = true
theorem m_defS {n : Nat} {b : RS} {ds : List D} {S : Sto} {d : D} (hS : Sane S) (hd : D.closed S.length d = true) (h : (b (ds.map some ++ List.replicate (n - ds.length) none) S).post NoS (fun z S1 => z = d ∧ S1 = S) NoS NoS) : mDef n b ds S = .ok d S :=
  same_of (m_def (h.mono (fun _ _ z => z.elim) (fun z S1 ⟨e1, e2⟩ => by
    subst e1 e2
    rw [List.take_length, hd, show closedL S1.length S1 = true from hS]
    exact ⟨rfl, rfl, rfl⟩) (fun _ _ z => z) (fun _ _ z => z)))
theorem m_defQ {n : Nat} {b : RS} {ds : List D} {S : Sto} {Q : D → Prop} (hS : Sane S) (hd : ∀ d, Q d → D.closed S.length d = true) (h : (b (ds.map some ++ List.replicate (n - ds.length) none) S).post NoS (fun z S1 => Q z ∧ S1 = S) NoS NoS) : (mDef n b ds S).post fun d S' => Q d ∧ S' = S :=
  m_def (h.mono (fun _ _ z => z.elim) (fun z S1 ⟨e1, e2⟩ => by
    subst e2
    rw [List.take_length, hd z e1, show closedL S1.length S1 = true from hS]
    exact ⟨rfl, e1, rfl⟩) (fun _ _ z => z) (fun _ _ z => z))
theorem fits_w {i j : Int} {a b : Nat} (h1 : i.natAbs < 2 ^ a) (h2 : j.natAbs < 2 ^ b) (h : a + b ≤ 100000000) : mulFits i j = true := by
  have lg : ∀ {n k : Nat}, n < 2 ^ k → n.log2 ≤ k := fun {n k} hn => by
    by_cases z : n = 0
    · subst z; simp
    · exact Nat.le_of_lt ((Nat.log2_lt z).mpr hn)
  have l1 := lg h1
  have l2 := lg h2
  unfold mulFits
  rw [Bool.or_eq_true]
  refine .inl ?_
  by_cases e : a + b < 100000000
  · exact decide_eq_true (by omega)
  · refine decide_eq_true ?_
    by_cases z : i.natAbs = 0
    · rw [z]
      by_cases y : b = 0
      · subst y
        have : j.natAbs.log2 = 0 := by omega
        simp [this]
      · by_cases w : j.natAbs = 0
        · rw [w]; decide
        · have := (Nat.log2_lt w).mpr h2
          simp only [Nat.log2_zero]; omega
    · have := (Nat.log2_lt z).mpr h1
      omega
theorem fits_of {i j : Int} {a b : Nat} (h1 : i.natAbs < 2 ^ a) (h2 : j.natAbs < 2 ^ b) (h : a + b ≤ 1000000) : mulFits i j = true := fits_w h1 h2 (Nat.le_trans h (by decide))
theorem fits_l {i j : Int} (h : i.natAbs < 2 ^ 64) : mulFits i j = true := by
  unfold mulFits
  rw [decide_eq_true h, Bool.true_or, Bool.or_true]
theorem fits_r {i j : Int} (h : j.natAbs < 2 ^ 64) : mulFits i j = true := by
  unfold mulFits
  rw [decide_eq_true h, Bool.or_true, Bool.or_true]
theorem rangeD_nat (j : Nat) : rangeD 0 j = (List.range j).map fun (i : Nat) => D.int i := by
  unfold rangeD
  rw [show ((j : Int) - 0).toNat = j by omega]
  refine List.map_congr_left fun i _ => ?_
  rw [Int.zero_add]
end DL
set_option Elab.async false
set_option linter.all false
set_option maxRecDepth 100000
set_option maxHeartbeats 4000000
set_option autoImplicit false
/-! Plain part: dicts in the store, what a def gives away. -/
namespace DL
open PySem L2
theorem closedL_set {n : Nat} : ∀ {S : Sto} {k : Nat} {d : D}, closedL n S = true → D.closed n d = true → closedL n (S.set k d) = true
  | [], _, _, h, _ => h
  | a :: r, 0, d, h, hd => by
    unfold closedL at h
    rw [Bool.and_eq_true] at h
    show closedL n (d :: r) = true
    unfold closedL
    rw [hd, h.2]; rfl
  | a :: r, k + 1, d, h, hd => by
    unfold closedL at h
    rw [Bool.and_eq_true] at h
    show closedL n (a :: r.set k d) = true
    unfold closedL
    rw [h.1, closedL_set h.2 hd]; rfl
theorem sane_set {S : Sto} {k : Nat} {d : D} (h : Sane S) (hd : D.closed S.length d = true) : Sane (S.set k d) := by
  unfold Sane
  rw [List.length_set]
  exact closedL_set h hd
mutual
theorem closed_mono {n m : Nat} (h : n ≤ m) : ∀ {d : D}, D.closed n d = true → D.closed m d = true
  | .ptr k, e => by
    unfold D.closed at e ⊢
    exact decide_eq_true (Nat.lt_of_lt_of_le (of_decide_eq_true e) h)
  | .tup xs, e => by unfold D.closed at e ⊢; exact closedL_mono h e
  | .lst xs, e => by unfold D.closed at e ⊢; exact closedL_mono h e
  | .dct xs, e => by unfold D.closed at e ⊢; exact closedK_mono h e
  | .dcn xs, e => by unfold D.closed at e ⊢; exact closedK_mono h e
  | .lck d, e => by unfold D.closed at e ⊢; exact closed_mono h e
  | .tux xs, e => by unfold D.closed at e ⊢; exact closedL_mono h e
  | .exc _ xs, e => by unfold D.closed at e ⊢; exact closedK_mono h e
  | .dc0 d, e => by unfold D.closed at e ⊢; exact closed_mono h e
  | .lam _ _ _ _ ds, e => by unfold D.closed at e ⊢; exact closedL_mono h e
  | .non, _ => rfl
  | .bl _, _ => rfl
  | .int _, _ => rfl
  | .str _, _ => rfl
  | .fn _, _ => rfl
  | .ty _, _ => rfl
theorem closedL_mono {n m : Nat} (h : n ≤ m) : ∀ {d : List D}, closedL n d = true → closedL m d = true
  | [], _ => rfl
  | a :: r, e => by
    unfold closedL at e ⊢
    rw [Bool.and_eq_true] at e ⊢
    exact ⟨closed_mono h e.1, closedL_mono h e.2⟩
theorem closedK_mono {n m : Nat} (h : n ≤ m) : ∀ {d : List (D × D)}, closedK n d = true → closedK m d = true
  | [], _ => rfl
  | (a, b) :: r, e => by
    unfold closedK at e ⊢
    rw [Bool.and_eq_true, Bool.and_eq_true] at e ⊢
    exact ⟨⟨closed_mono h e.1.1, closed_mono h e.1.2⟩, closedK_mono h e.2⟩
end
theorem closedL_app {n : Nat} : ∀ {a b : List D}, closedL n a = true → closedL n b = true → closedL n (a ++ b) = true
  | [], b, _, h => h
  | x :: a, b, e, h => by
    unfold closedL at e
    rw [Bool.and_eq_true] at e
    show closedL n (x :: (a ++ b)) = true
    unfold closedL
    rw [e.1, closedL_app e.2 h]; rfl
theorem sane_app {S : Sto} {d : D} (h : Sane S) (hd : D.closed (S.length + 1) d = true) : Sane (S ++ [d]) := by
  unfold Sane
  rw [List.length_append]
  refine closedL_app (closedL_mono (Nat.le_add_right _ _) h) ?_
  show closedL (S.length + 1) [d] = true
  unfold closedL closedL
  rw [hd]; rfl
section
variable {S : Sto} {δ : Sl} {QD : D → Sto → Prop} {N B C : Sl → Sto → Prop} {T : D → Sto → Prop}
theorem p_pairs_nil {Q : List (D × D) → Sto → Prop} (h : Q [] S) : (rPairs [] δ S).post Q := h
theorem p_pairs {k v : RE} {r : List (RE × RE)} {Q : List (D × D) → Sto → Prop} (h : (k δ S).post fun x S1 => (v δ S1).post fun y S2 => (rPairs r δ S2).post fun ps S3 => Q ((x, y) :: ps) S3) : (rPairs ((k, v) :: r) δ S).post Q := by
  unfold rPairs
  exact p_bind (h.mono fun x S1 q => p_bind (q.mono fun y S2 q => p_bind (q.mono fun ps S3 q => q)))
theorem p_disp {ps : List (RE × RE)} (h : (rPairs ps δ S).post fun kvs S1 => (kvs.all (fun p => isKey p.1) && decide (kvs.length ≤ 15)) = true ∧ QD (.dct (mergeD [] kvs)) S1) : (rDisp ps δ S).post QD := p_bind (h.mono fun kvs S1 q => by rw [if_pos q.1]; exact q.2)
end
/-- a def gives away what it made last -/
theorem m_give {n : Nat} {b : RS} {ds : List D} {S : Sto} {u : D} (hS : Sane S) (ho : u.owned = true) (hc : D.closed S.length u = true)
    (h : (b (ds.map some ++ List.replicate (n - ds.length) none) S).post NoS (fun z S1 => z = .ptr S.length ∧ S1 = S ++ [u]) NoS NoS) : mDef n b ds S = .ok (.ptr S.length) (S ++ [u]) := by
  unfold mDef
  cases q : b (ds.map some ++ List.replicate (n - ds.length) none) S with
  | rt d S1 =>
    rw [q] at h
    obtain ⟨rfl, rfl⟩ : d = .ptr S.length ∧ S1 = S ++ [u] := h
    dsimp only
    have e1 : D.closed S.length (.ptr S.length) = false := by unfold D.closed; exact decide_eq_false (Nat.lt_irrefl _)
    rw [e1]
    show giveD S.length (.ptr S.length) (S ++ [u]) = _
    unfold giveD
    dsimp only
    rw [show (S ++ [u])[S.length]? = some u by rw [List.getElem?_append_right (Nat.le_refl _), Nat.sub_self]; rfl]
    dsimp only
    rw [List.take_left', ho, hc, show closedL S.length S = true from hS, decide_eq_true (Nat.le_refl _)]
    · rfl
    · rfl
  | _ => rw [q] at h; exact h.elim
/-- S' is S but at k -/
structure But (k : Nat) (S S' : Sto) : Prop where
  len : S'.length = S.length
  at_ : ∀ j, j ≠ k → S'[j]? = S[j]?
  sane : Sane S'
theorem But.trans {k : Nat} {S S1 S2 : Sto} (a : But k S S1) (b : But k S1 S2) : But k S S2 := ⟨b.len.trans a.len, fun j hj => (b.at_ j hj).trans (a.at_ j hj), b.sane⟩
end DL
set_option Elab.async false
set_option linter.all false
set_option maxRecDepth 100000
set_option maxHeartbeats 4000000
set_option autoImplicit false
/-! Plain part: texts by their signs. -/
namespace DL
open PySem L2
/-- the text of these signs -/
def mk (cs : List Nat) : Str := ⟨cs.toArray⟩
/-- signs that a text may have -/
def Fine (cs : List Nat) : Prop := ∀ c ∈ cs, c < 128
theorem Fine.ok {cs : List Nat} (h : Fine cs) : PyData.strOk (mk cs) = true := by
  unfold PyData.strOk mk
  rw [Array.all_eq_true']
  intro c hc
  have := h c (by simpa using hc)
  exact decide_eq_true (by omega)
theorem Fine.drop {cs : List Nat} (h : Fine cs) (n : Nat) : Fine (cs.drop n) := fun c hc => h c (List.mem_of_mem_drop hc)
theorem Fine.take {cs : List Nat} (h : Fine cs) (n : Nat) : Fine (cs.take n) := fun c hc => h c (List.mem_of_mem_take hc)
section
variable {δ : Sl} {S : Sto} {QD : D → Sto → Prop} {QO : Option Int → Sto → Prop} {a : RE} {l h : RO}
theorem p_onone (q : QO none S) : (oNone δ S).post QO := q
theorem p_osome (q : (a δ S).post fun x S1 => ∃ i, x = .int i ∧ QO (some i) S1) : (oSome a δ S).post QO := p_bind (q.mono fun x S1 ⟨i, e, q'⟩ => by subst e; exact q')
theorem p_cutL (q : (a δ S).post fun x S1 => (l δ S1).post fun i S2 => (h δ S2).post fun j S3 => ∃ z, x = .lst z ∧ QD (.lst (cutD z i j)) S3) : (rCut a l h δ S).post QD :=
  p_bind (q.mono fun x S1 q => p_bind (q.mono fun i S2 q => p_bind (q.mono fun j S3 ⟨z, e, q'⟩ => by
    subst e
    exact q')))
end
theorem asBls_map : ∀ bs : List Bool, asBls (bs.map .bl) = some bs
  | [] => rfl
  | b :: r => by unfold List.map asBls; rw [asBls_map r]; rfl
theorem o_all {S : Sto} {bs : List Bool} {Q : D → Sto → Prop} (h : Q (.bl (bs.all id)) S) : (Res.lift (gAll S [.lst (bs.map .bl)]) S).post Q := p_lift (by unfold gAll deref; dsimp only; rw [asBls_map]; rfl) h
end DL
set_option Elab.async false
set_option linter.all false
set_option maxRecDepth 100000
set_option maxHeartbeats 4000000
set_option autoImplicit false
/-! Plain part: the wider operations. -/
namespace DL
open PySem L2
section
variable {S : Sto} {i j : Int} {x y : Str} {Q : D → Sto → Prop} {QL : List D → Sto → Prop} {QB : Bool → Sto → Prop} {δ : Sl} {N B C : Sl → Sto → Prop} {T : D → Sto → Prop}
theorem o_ltU (h : Q (.bl (decide (i < j))) S) : (Res.lift (gLtU S (.int i) (.int j)) S).post Q := h
theorem o_leU (h : Q (.bl (decide (i ≤ j))) S) : (Res.lift (gLeU S (.int i) (.int j)) S).post Q := h
theorem o_gtU (h : Q (.bl (decide (j < i))) S) : (Res.lift (gGtU S (.int i) (.int j)) S).post Q := h
theorem o_geU (h : Q (.bl (decide (j ≤ i))) S) : (Res.lift (gGeU S (.int i) (.int j)) S).post Q := h
theorem p_zipA {a : RA} (h : (a δ S).post fun xs S1 => (∃ ds es, xs = [.lst ds, .lst es] ∧ QL (zipD ds es) S1) ∨ ∃ ds es, xs = [.tup ds, .tup es] ∧ QL (zipD ds es) S1) : (rZipA a δ S).post QL :=
  p_bind (h.mono fun xs S1 q => by rcases q with ⟨ds, es, e, q⟩ | ⟨ds, es, e, q⟩ <;> subst e <;> exact q)
theorem p_cutT {a : RE} {l h : RO} (q : (a δ S).post fun x S1 => (l δ S1).post fun i S2 => (h δ S2).post fun j S3 => ∃ z, x = .tup z ∧ Q (.tup (cutD z i j)) S3) : (rCut a l h δ S).post Q :=
  p_bind (q.mono fun x S1 q => p_bind (q.mono fun i S2 q => p_bind (q.mono fun j S3 ⟨z, e, q'⟩ => by
    subst e
    exact q')))
theorem p_bif {c a b : RB} (h : (c δ S).post fun k S1 => (k = true → (a δ S1).post QB) ∧ (k = false → (b δ S1).post QB)) : (bIf c a b δ S).post QB := p_bind (h.mono fun k _ q => by
  cases k with
  | true => exact q.1 rfl
  | false => exact q.2 rfl)
theorem o_lenT {xs : List D} (q : Q (.int xs.length) S) : (Res.lift (gLen S [.tup xs]) S).post Q := q
theorem o_lenL {xs : List D} (q : Q (.int xs.length) S) : (Res.lift (gLen S [.lst xs]) S).post Q := q
theorem s_gtux {u : List D → Sl → Sto → Res Sl} {ds : List D} {QS : Sl → Sto → Prop} (h : (u ds δ S).post QS) : (gTup u (.tux ds) δ S).post QS := h
theorem atI_0 {a : D} {r : List D} : atI (a :: r) 0 = some a := by unfold atI ixN; simp
theorem atI_1 {a b : D} {r : List D} : atI (a :: b :: r) 1 = some b := by
  unfold atI ixN
  simp
  rw [if_pos (by omega)]
  rfl
theorem atI_2 {a b c : D} {r : List D} : atI (a :: b :: c :: r) 2 = some c := by
  unfold atI ixN
  simp
  rw [if_pos (by omega)]
  rfl
theorem asInts_map : ∀ ns : List Int, asInts (ns.map .int) = some ns
  | [] => rfl
  | b :: r => by unfold List.map asInts; rw [asInts_map r]; rfl
theorem o_sumI {ns : List Int} (h : Q (.int ns.sum) S) : (Res.lift (gSum S [.lst (ns.map .int)]) S).post Q := p_lift (by unfold gSum deref; dsimp only; rw [asInts_map]; rfl) h
end
end DL
set_option Elab.async false
set_option linter.all false
set_option maxRecDepth 100000
set_option maxHeartbeats 4000000
set_option autoImplicit false
/-! Plain part: how long a repr is, and of which signs. -/
namespace DL
open PySem L2
/-! ### data of bounded size -/
mutual
def fitP : PyData → Bool
  | .none => true
  | .bool _ => true
  | .int i => decide (i.natAbs < 10 ^ 1005)
  | .str x => PyData.strOk x
  | .list xs => fitPs xs
  | .tuple xs => fitPs xs
  | .dict _ => false
def fitPs : List PyData → Bool
  | [] => true
  | x :: r => fitP x && fitPs r
end
end DL
set_option Elab.async false
set_option linter.all false
set_option maxRecDepth 100000
set_option maxHeartbeats 4000000
set_option autoImplicit false
/-! Typed things as data: their order, sorting. -/
namespace DL
open PySem L2
class Emb (κ : Type) where
  toD : κ → D
  py : κ → PyData
  deg : Nat
  pyOk : ∀ (S : Sto) (a : κ), toPy S (toD a) = some (py a)
  np : ∀ (a : κ) (k : Nat), toD a ≠ .ptr k
  al : ∀ a b : κ, PySem.W.alike (py a) (py b) = true
  dep : ∀ a : κ, (py a).depth ≤ deg
  inj : ∀ a b : κ, PyData.eqv (py a) (py b) = true → a = b
  cl : ∀ (n : Nat) (a : κ), D.closed n (toD a) = true
open Emb
section
variable {κ ν : Type} [Emb κ] [Emb ν]
theorem emb_pys (S : Sto) : ∀ xs : List κ, toPys S (xs.map toD) = some (xs.map py)
  | [] => rfl
  | x :: r => by unfold List.map toPys; rw [pyOk S x, emb_pys S r]
theorem emb_closed (n : Nat) : ∀ xs : List κ, closedL n (xs.map toD) = true
  | [] => rfl
  | x :: r => by unfold List.map closedL; rw [cl n x, emb_closed n r]; rfl
theorem emb_al : ∀ xs ys : List κ, PySem.W.alikeAll (xs.map py) (ys.map py) = true
  | [], _ => by unfold List.map PySem.W.alikeAll; rfl
  | _ :: _, [] => by unfold List.map PySem.W.alikeAll; rfl
  | x :: r, y :: q => by unfold List.map PySem.W.alikeAll; rw [al x y, emb_al r q]; rfl
theorem emb_dep : ∀ xs : List κ, PyData.depthAll (xs.map py) ≤ deg κ
  | [] => by simp [PyData.depthAll]
  | x :: r => by
    have h1 := dep x
    have h2 := emb_dep r
    simp only [List.map_cons, PyData.depthAll]
    omega
theorem emb_injs : ∀ xs ys : List κ, PyData.eqvAll (xs.map py) (ys.map py) = true → xs = ys
  | [], [], _ => rfl
  | [], _ :: _, h => by simp [PyData.eqvAll] at h
  | _ :: _, [], h => by simp [PyData.eqvAll] at h
  | x :: r, y :: q, h => by
    simp only [List.map_cons, PyData.eqvAll, Bool.and_eq_true] at h
    rw [inj x y h.1, emb_injs r q h.2]
theorem deref_emb (S : Sto) (a : κ) : deref S (toD a) = toD a := by
  have h := np a
  cases q : (toD a : D) with
  | ptr k => exact absurd q (h k)
  | _ => rfl
end
instance : Emb Int where
  toD := .int
  py := .int
  deg := 0
  pyOk := fun _ _ => rfl
  np := fun _ _ h => nomatch h
  al := fun a b => by simp [PySem.W.alike]
  dep := fun a => by simp [PyData.depth]
  inj := fun a b h => by simpa [PyData.eqv] using h
  cl := fun _ _ => rfl
instance : Emb Str where
  toD := .str
  py := .str
  deg := 0
  pyOk := fun _ _ => rfl
  np := fun _ _ h => nomatch h
  al := fun a b => by simp [PySem.W.alike]
  dep := fun a => by simp [PyData.depth]
  inj := fun a b h => by simpa [PyData.eqv] using h
  cl := fun _ _ => rfl
instance {α β : Type} [Emb α] [Emb β] : Emb (α × β) where
  toD := fun p => .tup [toD p.1, toD p.2]
  py := fun p => .tuple [py p.1, py p.2]
  deg := max (deg α) (deg β) + 1
  pyOk := fun S p => by unfold toPy toPys toPys toPys; rw [pyOk, pyOk]; rfl
  np := fun _ _ h => nomatch h
  al := fun a b => by simp [PySem.W.alike, PySem.W.alikeAll, al]
  dep := fun a => by
    have h1 := dep a.1
    have h2 := dep a.2
    simp only [PyData.depth, PyData.depthAll]
    omega
  inj := fun a b h => by
    simp only [PyData.eqv, PyData.eqvAll, Bool.and_eq_true] at h
    exact Prod.ext (inj _ _ h.1) (inj _ _ h.2.1)
  cl := fun n p => by unfold D.closed closedL closedL closedL; rw [cl, cl]; rfl
instance {α : Type} [Emb α] : Emb (List α) where
  toD := fun xs => .tup (xs.map toD)
  py := fun xs => .tuple (xs.map py)
  deg := deg α + 1
  pyOk := fun S xs => by unfold toPy; rw [emb_pys]; rfl
  np := fun _ _ h => nomatch h
  al := fun a b => by unfold PySem.W.alike; exact emb_al a b
  dep := fun a => by
    have := emb_dep a
    simp only [PyData.depth]
    omega
  inj := fun a b h => by
    simp only [PyData.eqv] at h
    exact emb_injs a b h
  cl := fun n xs => by unfold D.closed; exact emb_closed n xs
/-! ### order -/
section
variable {κ ν : Type} [Emb κ] [Emb ν]
class Sok (κ : Type) [Emb κ] : Prop where
  sok : (∀ a : κ, tupFull (py a) = true) ∨ ∀ a : κ, noTup (py a) = true
  low : deg κ ≤ 40
instance : Sok Int := ⟨.inr fun _ => rfl, by decide⟩
instance : Sok Str := ⟨.inr fun _ => rfl, by decide⟩
end
/-! ### rows of pairs: dicts -/
section
variable {κ ν : Type} [DecidableEq κ]
def getT : List (κ × ν) → κ → Option ν
  | [], _ => none
  | (k, v) :: r, q => if k = q then some v else getT r q
end
/-! ### rows in order -/
end DL
set_option Elab.async false
set_option linter.all false
set_option maxRecDepth 100000
set_option maxHeartbeats 4000000
set_option autoImplicit false
/-! Typed dicts in the store. -/
namespace DL
open PySem L2
open Emb
/-- what may be a key: texts, numbers (pk), tuples -/
class KeyE (κ : Type) [Emb κ] [DecidableEq κ] where
  pk : Bool
  plain : pk = true → ∀ a : κ, isKey (toD a) = true ∧ ∀ b : κ, keyEq (toD a) (toD b) = decide (a = b)
  nest : pk = false → ∀ a : κ, isKey (toD a) = false ∧ isKeyN (toD a) = true ∧ ∀ b : κ, eqN (toD a) (toD b) = decide (a = b)
/-- things that can be tuple keys, and stand in such -/
class NkE (κ : Type) [Emb κ] where
  nk : κ → NestedKey
  nkOk : ∀ a : κ, keyN (toD a) = some (nk a)
  nkInj : ∀ a b : κ, nk a = nk b → a = b
  kdeg : Nat
  nkDep : ∀ a : κ, (nk a).depth ≤ kdeg
open NkE
instance : NkE Int where
  nk := .num
  nkOk := fun _ => by unfold keyN; rfl
  nkInj := fun a b h => by cases h; rfl
  kdeg := 0
  nkDep := fun a => by simp [NestedKey.depth]
instance : NkE Str where
  nk := .text
  nkOk := fun _ => by unfold keyN; rfl
  nkInj := fun a b h => by cases h; rfl
  kdeg := 0
  nkDep := fun a => by simp [NestedKey.depth]
section
variable {α β : Type} [Emb α] [Emb β] [NkE α] [NkE β]
theorem nks_ok : ∀ xs : List α, keyNs (xs.map toD) = some (xs.map nk)
  | [] => by unfold List.map keyNs; rfl
  | x :: r => by unfold List.map keyNs; rw [nkOk x, nks_ok r]
theorem nks_inj : ∀ xs ys : List α, xs.map nk = ys.map nk → xs = ys
  | [], [], _ => rfl
  | [], _ :: _, h => nomatch h
  | _ :: _, [], h => nomatch h
  | x :: r, y :: q, h => by
    simp only [List.map_cons, List.cons.injEq] at h
    rw [nkInj x y h.1, nks_inj r q h.2]
theorem nks_dep : ∀ xs : List α, NestedKey.depthAll (xs.map nk) ≤ kdeg α
  | [] => by simp [NestedKey.depthAll]
  | x :: r => by
    have h1 := nkDep x
    have h2 := nks_dep r
    simp only [List.map_cons, NestedKey.depthAll]
    omega
instance : NkE (α × β) where
  nk := fun p => .tup [nk p.1, nk p.2]
  nkOk := fun p => by
    show keyN (.tup [toD p.1, toD p.2]) = _
    unfold keyN keyNs keyNs keyNs
    rw [nkOk, nkOk]; rfl
  nkInj := fun a b h => by
    simp only [NestedKey.tup.injEq, List.cons.injEq] at h
    exact Prod.ext (nkInj _ _ h.1) (nkInj _ _ h.2.1)
  kdeg := max (kdeg α) (kdeg β) + 1
  nkDep := fun a => by
    have h1 := nkDep a.1
    have h2 := nkDep a.2
    simp only [NestedKey.depth, NestedKey.depthAll]
    omega
instance : NkE (List α) where
  nk := fun xs => .tup (xs.map nk)
  nkOk := fun xs => by
    show keyN (.tup (xs.map toD)) = _
    unfold keyN
    rw [nks_ok]; rfl
  nkInj := fun a b h => by
    simp only [NestedKey.tup.injEq] at h
    exact nks_inj _ _ h
  kdeg := kdeg α + 1
  nkDep := fun a => by
    have := nks_dep a
    simp only [NestedKey.depth]
    omega
end
theorem nest_of {κ : Type} [Emb κ] [DecidableEq κ] [NkE κ] (ht : ∀ a : κ, ∃ ds, (toD a : D) = .tup ds) (hd : kdeg κ ≤ 8) (a : κ) : isKey (toD a) = false ∧ isKeyN (toD a) = true ∧ ∀ b : κ, eqN (toD a) (toD b) = decide (a = b) := by
  obtain ⟨ds, e⟩ := ht a
  refine ⟨by rw [e]; rfl, ?_, fun b => ?_⟩
  · have h := nkOk a
    rw [e] at h ⊢
    unfold isKeyN
    dsimp only
    rw [h]
    exact decide_eq_true (Nat.le_trans (nkDep a) hd)
  · rw [eqN_dec (nkOk a) (nkOk b)]
    by_cases h : a = b
    · subst h; rw [decide_eq_true rfl, decide_eq_true rfl]
    · rw [decide_eq_false h, decide_eq_false fun z => h (nkInj _ _ z)]
instance : KeyE Str where
  pk := true
  plain := fun _ a => ⟨rfl, fun b => by
    show keyEq (kD (.inr a)) (kD (.inr b)) = _
    rw [keyEq_kD]
    by_cases h : a = b
    · subst h; rw [decide_eq_true rfl, decide_eq_true rfl]
    · rw [decide_eq_false h, decide_eq_false fun z => h (by cases z; rfl)]⟩
  nest := fun h => nomatch h
instance : KeyE Int where
  pk := true
  plain := fun _ a => ⟨rfl, fun b => by
    show keyEq (kD (.inl a)) (kD (.inl b)) = _
    rw [keyEq_kD]
    by_cases h : a = b
    · subst h; rw [decide_eq_true rfl, decide_eq_true rfl]
    · rw [decide_eq_false h, decide_eq_false fun z => h (by cases z; rfl)]⟩
  nest := fun h => nomatch h
end DL
set_option Elab.async false
set_option linter.all false
set_option maxRecDepth 100000
set_option maxHeartbeats 4000000
set_option autoImplicit false
/-! Plain tools, for every law. -/
namespace DL
open PySem L2
open Emb
theorem take_app {S : Sto} {a : D} : (S ++ [a]).take S.length = S := List.take_left' rfl
theorem set_app {S : Sto} {a b : D} : (S ++ [a]).set S.length b = S ++ [b] := by
  rw [List.set_append_right _ _ (Nat.le_refl _), Nat.sub_self]
  rfl
theorem get_app {S : Sto} {a : D} : (S ++ [a])[S.length]? = some a := by
  rw [List.getElem?_append_right (Nat.le_refl _), Nat.sub_self]
  rfl
theorem deref_app {S : Sto} {xs : List D} : deref (S ++ [.lst xs]) (.ptr S.length) = .lst xs := by
  unfold deref
  dsimp only
  rw [List.getD_eq_getElem?_getD, get_app]
  rfl
/-- a def that drops what it made -/
theorem m_defJ {n : Nat} {b : RS} {ds : List D} {S : Sto} {d : D} (hS : Sane S) (hd : D.closed S.length d = true) (h : (b (ds.map some ++ List.replicate (n - ds.length) none) S).post NoS (fun z S1 => z = d ∧ S1.take S.length = S) NoS NoS) : mDef n b ds S = .ok d S :=
  same_of (m_def (h.mono (fun _ _ z => z.elim) (fun z S1 ⟨e1, e2⟩ => by
    rw [e1, hd, e2, show closedL S.length S = true from hS]
    exact ⟨rfl, rfl, rfl⟩) (fun _ _ z => z) (fun _ _ z => z)))
theorem o_getU {S : Sto} {k : Nat} {q v : D} {kvs : List (D × D)} {Q : D → Sto → Prop} (h : S[k]? = some (.dct kvs)) (hq : isKey q = true) (e : lookD kvs q = some v) (f : Q v S) : (Res.lift (gGetU S (.ptr k) q) S).post Q :=
  p_lift (by
    have hd : deref S (.ptr k) = .dct kvs := by
      unfold deref
      dsimp only
      rw [show S.getD k .non = .dct kvs by rw [List.getD_eq_getElem?_getD, h]; rfl]
    unfold gGetU lookU
    rw [hd]
    dsimp only
    rw [if_pos hq, e]) f
theorem s_putU {δ : Sl} {S : Sto} {d k v : RE} {N B C : Sl → Sto → Prop} {T : D → Sto → Prop} (h : (v δ S).post fun z S1 => (d δ S1).post fun x S2 => (k δ S2).post fun y S3 => ∃ n u u', x = .ptr n ∧ S3[n]? = some u ∧ putU u y z = some u' ∧ N δ (S3.set n u')) : (sPutU d k v δ S).post N T B C :=
  p_out (h.mono fun z S1 q => p_out (q.mono fun x S2 q => p_out (q.mono fun y S3 ⟨n, u, u', e1, e2, e3, q'⟩ => by
    subst e1
    dsimp only
    rw [e2]
    dsimp only
    rw [e3]
    exact q')))
theorem s_setL {δ : Sl} {S : Sto} {d k v : RE} {N B C : Sl → Sto → Prop} {T : D → Sto → Prop} (h : (v δ S).post fun z S1 => (d δ S1).post fun x S2 => (k δ S2).post fun y S3 => ∃ n i xs j, x = .ptr n ∧ y = .int i ∧ S3[n]? = some (.lst xs) ∧ ixN xs.length i = some j ∧ N δ (S3.set n (.lst (xs.set j z)))) : (sSetL d k v δ S).post N T B C :=
  p_out (h.mono fun z S1 q => p_out (q.mono fun x S2 q => p_out (q.mono fun y S3 ⟨n, i, xs, j, e1, e2, e3, e4, q'⟩ => by
    subst e1
    subst e2
    dsimp only
    rw [e3]
    dsimp only
    rw [e4]
    exact q')))
theorem deref_at {S : Sto} {k : Nat} {xs : List D} (h : S[k]? = some (.lst xs)) : deref S (.ptr k) = .lst xs := by
  unfold deref
  dsimp only
  rw [show S.getD k .non = .lst xs by rw [List.getD_eq_getElem?_getD, h]; rfl]
theorem closed_ints' {m : Nat} : ∀ ns : List Int, closedL m (ns.map D.int) = true
  | [] => rfl
  | _ :: r => by unfold List.map closedL; rw [closed_ints' r]; rfl
theorem pow6 {δ : Sl} {S : Sto} {Q : D → Sto → Prop} {n : Nat} (hn : n ≤ 1000) (h : Q (.int (10 ^ n)) S) : (Res.lift (gPow S (.int 10) (.int n)) S).post Q := o_pow ⟨by omega, by omega, by decide⟩ (by
  have e : (n : Int).toNat = n := by omega
  rw [e]; exact h)
theorem p_get2 {a k x : RE} {δ : Sl} {S : Sto} {Q : D → Sto → Prop} (h : (a δ S).post fun d S1 => isDct S1 d = true ∧ (k δ S1).post fun q S2 => (x δ S2).post fun z S3 => ∃ o, lookU S3 d q = some o ∧ Q (o.getD z) S3) : (rGet2 a k x δ S).post Q :=
  p_bind (h.mono fun d S1 ⟨e, q⟩ => by
    rw [if_pos e]
    exact p_bind (q.mono fun y S2 q => p_bind (q.mono fun z S3 ⟨o, e2, q⟩ => p_lift (by rw [e2]; rfl) q)))
theorem unset {S : Sto} {k : Nat} {u x : D} (hk : S[k]? = some u) : (S.set k x).set k u = S := by
  have hlt := (List.getElem?_eq_some_iff.mp hk).1
  rw [List.set_set]
  have := (List.getElem?_eq_some_iff.mp hk).2
  rw [← this]
  exact List.set_getElem_self hlt
/-- a comprehension over things of a kind, that leaves the store -/
theorem lcT {α β : Type} (ta : α → D) (tb : β → D) (f : α → Option β) {g : RG} {t : RB} {e : RE} {δ : Sl} {S : Sto} : ∀ {xs : List α}, (∀ a ∈ xs, ∃ δ1, g (ta a) δ S = .ok δ1 S ∧ ((f a = none ∧ t δ1 S = .ok false S) ∨ ∃ b, f a = some b ∧ t δ1 S = .ok true S ∧ e δ1 S = .ok (tb b) S)) → lcL g t e (xs.map ta) δ S = .ok ((xs.filterMap f).map tb) S
  | [], _ => rfl
  | x :: xs, h => by
    have ih := lcT ta tb f (g := g) (t := t) (e := e) (δ := δ) (S := S) (xs := xs) fun y hy => h y (List.mem_cons_of_mem _ hy)
    obtain ⟨δ1, h1, h2⟩ := h x List.mem_cons_self
    rw [List.map_cons]
    unfold lcL
    rw [h1]
    show (t δ1 S).bind _ = _
    rw [List.filterMap_cons]
    rcases h2 with ⟨e1, e2⟩ | ⟨y, e1, e2, e3⟩
    · rw [e2, e1]
      exact ih
    · rw [e2, e1]
      show (e δ1 S).bind _ = _
      rw [e3]
      show (lcL g t e (xs.map ta) δ S).bind _ = _
      rw [ih]
      rfl
/-- each turn one thing -/
theorem lcTm {α β : Type} (ta : α → D) (tb : β → D) (f : α → β) {g : RG} {e : RE} {δ : Sl} {S : Sto} {xs : List α} (h : ∀ a ∈ xs, ∃ δ1, g (ta a) δ S = .ok δ1 S ∧ e δ1 S = .ok (tb (f a)) S) : lcL g bYes e (xs.map ta) δ S = .ok ((xs.map f).map tb) S := by
  rw [lcT ta tb (fun a => some (f a)) fun a ha => by
    obtain ⟨δ1, h1, h2⟩ := h a ha
    exact ⟨δ1, h1, .inr ⟨_, rfl, rfl, h2⟩⟩]
  rw [show xs.filterMap (fun a => some (f a)) = xs.map f from congrFun (List.filterMap_eq_map) xs]
/-- a def that leaves what it made -/
theorem m_defK {n : Nat} {b : RS} {ds : List D} {S : Sto} {Q : D → Sto → Prop} (h : (b (ds.map some ++ List.replicate (n - ds.length) none) S).post (fun _ S1 => Q .non S1) Q NoS NoS) : (mDefK n b ds S).post Q := by
  unfold mDefK
  cases q : b (ds.map some ++ List.replicate (n - ds.length) none) S with
  | nx δ S1 => rw [q] at h; exact h
  | rt d S1 => rw [q] at h; exact h
  | _ => rw [q] at h; exact h.elim
theorem p_sortIt {a : RE} {δ : Sl} {S : Sto} {Q : D → Sto → Prop} (h : (a δ S).post fun d S1 => ∃ xs, (itemsOf (deref S1 d)).bind (sortD S1) = some xs ∧ Q (.lst xs) S1) : (rSortItems a δ S).post Q :=
  p_bind (h.mono fun d S1 ⟨xs, e, q⟩ => p_lift (a := .lst xs) (by rw [e]; rfl) q)
/-- the loop's law over things of a kind: I what is left -/
theorem s_forT {α : Type} (ta : α → D) {g : RG} {b : RS} {N B C : Sl → Sto → Prop} {T : D → Sto → Prop} (I : List α → Sl → Sto → Prop) (step : ∀ x xs δ S, I (x :: xs) δ S → (g (ta x) δ S).post fun δ1 S1 => (b δ1 S1).post (fun δ2 S2 => I xs δ2 S2) T N fun δ2 S2 => I xs δ2 S2) (fin : ∀ δ S, I [] δ S → N δ S)
    (xs : List α) (δ : Sl) (S : Sto) (h : I xs δ S) : (forL g b (xs.map ta) δ S).post N T B C :=
  s_forL (fun ds δ S => ∃ xs : List α, ds = xs.map ta ∧ I xs δ S) (fun x ds δ S ⟨xs, e, h⟩ => by
    cases xs with
    | nil => cases e
    | cons y ys =>
      rw [List.map_cons, List.cons.injEq] at e
      obtain ⟨rfl, rfl⟩ := e
      exact (step y ys δ S h).mono fun δ1 S1 q => q.mono (fun _ _ z => ⟨ys, rfl, z⟩) (fun _ _ z => z) (fun _ _ z => z) (fun _ _ z => ⟨ys, rfl, z⟩)) (fun δ S ⟨xs, e, h⟩ => by
    cases xs with
    | nil => exact fin δ S h
    | cons y ys => cases e) (xs.map ta) δ S ⟨xs, rfl, h⟩
mutual
theorem eqv_refl : ∀ x : PyData, fitP x = true → PyData.eqv x x = true
  | .none, _ => by simp [PyData.eqv]
  | .bool b, _ => by simp [PyData.eqv]
  | .int i, _ => by simp [PyData.eqv]
  | .str x, _ => by simp [PyData.eqv]
  | .list xs, h => by simp only [PyData.eqv]; exact eqvs_refl xs (by unfold fitP at h; exact h)
  | .tuple xs, h => by simp only [PyData.eqv]; exact eqvs_refl xs (by unfold fitP at h; exact h)
  | .dict _, h => by unfold fitP at h; cases h
theorem eqvs_refl : ∀ xs : List PyData, fitPs xs = true → PyData.eqvAll xs xs = true
  | [], _ => by simp [PyData.eqvAll]
  | x :: r, h => by
    unfold fitPs at h
    rw [Bool.and_eq_true] at h
    simp only [PyData.eqvAll, eqv_refl x h.1, eqvs_refl r h.2, Bool.and_self]
end
end DL
set_option Elab.async false
set_option linter.all false
set_option maxRecDepth 100000
set_option maxHeartbeats 4000000
set_option autoImplicit false
/-! Products of boxes, kinds, fractions: typed. -/
namespace DL
open PySem L2
open Emb
/-! ### fractions -/
instance : Emb Rat where
  toD := fun q => .tup [.int q.num, .int q.den]
  py := fun q => .tuple [.int q.num, .int q.den]
  deg := 1
  pyOk := fun _ _ => rfl
  np := fun _ _ h => nomatch h
  al := fun a b => by simp [PySem.W.alike, PySem.W.alikeAll]
  dep := fun a => by simp [PyData.depth, PyData.depthAll]
  inj := fun a b h => by
    simp only [PyData.eqv, PyData.eqvAll, Bool.and_eq_true, beq_iff_eq] at h
    exact Rat.ext h.1 (Int.ofNat.inj h.2.1)
  cl := fun _ _ => rfl
/-! ### products of boxes, kinds -/
abbrev Mono := List (Str × Int)
structure Kind where
  m : Mono
  p : Int
  b : Int
  deriving DecidableEq
instance : Emb Kind where
  toD := fun k => .tup [toD k.m, .int k.p, .int k.b]
  py := fun k => .tuple [py k.m, .int k.p, .int k.b]
  deg := deg Mono + 1
  pyOk := fun S k => by unfold toPy toPys toPys toPys toPys; rw [pyOk]; rfl
  np := fun _ _ h => nomatch h
  al := fun a b => by simp [PySem.W.alike, PySem.W.alikeAll, al]
  dep := fun a => by
    have h1 := dep a.m
    simp only [PyData.depth, PyData.depthAll]
    omega
  inj := fun a b h => by
    simp only [PyData.eqv, PyData.eqvAll, Bool.and_eq_true, beq_iff_eq] at h
    have h1 := inj _ _ h.1
    obtain ⟨_, _, _⟩ := a
    obtain ⟨_, _, _⟩ := b
    simp only [Kind.mk.injEq]
    exact ⟨h1, h.2.1, h.2.2.1⟩
  cl := fun n k => by unfold D.closed closedL closedL closedL closedL; rw [cl]; rfl
instance : NkE Kind where
  nk := fun k => .tup [NkE.nk k.m, .num k.p, .num k.b]
  nkOk := fun k => by
    show keyN (.tup [toD k.m, .int k.p, .int k.b]) = _
    unfold keyN keyNs keyNs keyNs keyNs
    rw [NkE.nkOk]; unfold keyN; rfl
  nkInj := fun a b h => by
    simp only [NestedKey.tup.injEq, List.cons.injEq, NestedKey.num.injEq] at h
    have h1 := NkE.nkInj _ _ h.1
    obtain ⟨_, _, _⟩ := a
    obtain ⟨_, _, _⟩ := b
    simp only [Kind.mk.injEq]
    exact ⟨h1, h.2.1, h.2.2.1⟩
  kdeg := NkE.kdeg Mono + 1
  nkDep := fun a => by
    have h1 := NkE.nkDep a.m
    simp only [NestedKey.depth, NestedKey.depthAll]
    omega
instance : KeyE Mono where
  pk := false
  plain := fun h => nomatch h
  nest := fun _ a => nest_of (fun a => ⟨_, rfl⟩) (by decide) a
instance : KeyE Kind where
  pk := false
  plain := fun h => nomatch h
  nest := fun _ a => nest_of (fun a => ⟨_, rfl⟩) (by decide) a
instance : Sok (Str × Int) := ⟨.inl fun _ => rfl, by decide⟩
instance : Sok (Mono × Int) := ⟨.inl fun _ => rfl, by decide⟩
instance : Sok (Mono × Rat) := ⟨.inl fun _ => rfl, by decide⟩
instance : Sok (Kind × Rat) := ⟨.inl fun _ => rfl, by decide⟩
end DL
set_option Elab.async false
set_option linter.all false
set_option maxRecDepth 100000
set_option maxHeartbeats 4000000
set_option autoImplicit false
/-! xs.extend(ys), ys a list of the store. -/
set_option Elab.async false
set_option linter.all false
set_option maxRecDepth 100000
set_option maxHeartbeats 4000000
set_option autoImplicit false
/-! == of a list whose items are lists of the store, with data. -/
set_option Elab.async false
set_option linter.all false
set_option maxRecDepth 100000
set_option maxHeartbeats 4000000
set_option autoImplicit false
/-! zip(tuple, list). -/
namespace L2
open PySem PySem.Spec PyProof.Rows
theorem drawT {X : Cx} (hh : X.A.in1.handled = none) (it t : Addr) (hne : t ≠ it) (its : Array Value) (i : Nat) :
    ∃ (n : Nat) (St : Nat → Heap → Prop), Draws X.prog X.w X.A.in1 it [it, t] n (fun i v => its[i]? = some v) St ∧ i ≤ n ∧ (its.size ≤ i → i = n) ∧ ∀ h : Heap, h.IsTupleIter it t i → h.IsTuple t its → St i h := by
  by_cases c : its.size ≤ i
  · exact ⟨i, fun j h => j = i ∧ h.IsTupleIter it t i ∧ h.IsTuple t its, {
      live := fun _ _ st => let ⟨o, ho, _⟩ := st.2.1; ⟨o, ho⟩
      frame := fun _ _ _ st hk => ⟨st.1, st.2.1.at fun o e => hk it (by simp) o e, st.2.2.at fun o e => hk t (by simp) o e⟩
      item := fun i' s' Q E' hi st hQ => by have := st.1; omega
      done := fun s' Q E' st hE => wpAny_nextOf_tuple_end hh st.2.1 st.2.2 (by simp; omega) hE }, Nat.le_refl _, fun _ => rfl, fun h a b => ⟨rfl, a, b⟩⟩
  · exact ⟨its.size, _, Draws.tuple hh it t hne its, by omega, fun q => absurd q c, fun h a b => ⟨a, b⟩⟩
theorem drawL {X : Cx} (hh : X.A.in1.handled = none) (it t : Addr) (hne : t ≠ it) (its : Array Value) (i : Nat) :
    ∃ (n : Nat) (St : Nat → Heap → Prop), Draws X.prog X.w X.A.in1 it [it, t] n (fun i v => its[i]? = some v) St ∧ i ≤ n ∧ (its.size ≤ i → i = n) ∧ ∀ h : Heap, h.IsListIter it t i → h.IsList t its → St i h := by
  by_cases c : its.size ≤ i
  · exact ⟨i, fun j h => j = i ∧ h.IsListIter it t i ∧ h.IsList t its, {
      live := fun _ _ st => let ⟨o, ho, _⟩ := st.2.1; ⟨o, ho⟩
      frame := fun _ _ _ st hk => ⟨st.1, st.2.1.at fun o e => hk it (by simp) o e, st.2.2.at fun o e => hk t (by simp) o e⟩
      item := fun i' s' Q E' hi st hQ => by have := st.1; omega
      done := fun s' Q E' st hE => wpAny_nextOf_list_end hh st.2.1 st.2.2 (by simp; omega) hE }, Nat.le_refl _, fun _ => rfl, fun h a b => ⟨rfl, a, b⟩⟩
  · exact ⟨its.size, _, Draws.list hh it t hne its, by omega, fun q => absurd q c, fun h a b => ⟨a, b⟩⟩
theorem sep_of {z TI TO i1 i2 a b : Addr} (D : ZipApart z TI TO i1 i2 a b) : ZipSep2 z TI TO i1 i2 [i1, a] [i2, b] where
  TIz := D.TIz
  TOz := D.TOz
  TITO := D.TITO
  TIi1 := D.TIi1
  mem1 := by simp
  zf1 := by simp [D.i1z.symm, D.l1z.symm]
  Tf1 := by simp [D.TOi1, D.l1TO.symm]
  TIi2 := D.TIi2
  mem2 := by simp
  zf2 := by simp [D.i2z.symm, D.l2z.symm]
  Tf2 := by simp [D.TOi2, D.l2TO.symm]
  sep1_2 := by simp [D.i12, D.l2i1.symm]
  sep2_1 := by simp [D.i12.symm, D.l1i2.symm]
def ItzM (K : PySem.W.Frag) (a b : Addr) : It :=
  ⟨fun i H => ∃ (xs ys : List V) (x y : V), SqT K H a xs ∧ SqL K H b ys ∧ xs[i]? = some x ∧ ys[i]? = some y,
    fun i H v H' => ∃ T x y, v = .ref T ∧ H T = none ∧ H' = upd H T (.tup [x, y]) ∧ (∀ xs, SqT K H a xs → xs[i]? = some x) ∧ ∀ ys, SqL K H b ys → ys[i]? = some y,
    fun i H => ∃ xs ys : List V, SqT K H a xs ∧ SqL K H b ys ∧ (xs.length ≤ i ∨ ys.length ≤ i)⟩
theorem turn_zipM {P : Program} {w : World} {K : PySem.W.Frag} {elts : List Expr} {kk : Nat} {tpos : Pos} {a b z TI TO i1 i2 : Addr} (D : ZipApart z TI TO i1 i2 a b) :
    Turn P w K (.Tuple elts kk tpos) (ItzM K a b) [z, TI, TO, i1, i2] z (fun i h => IsZip h z TI TO .none ∧ IsPair h TI (.ref i1) (.ref i2) ∧ (∃ x y, IsPair h TO x y) ∧ h.IsTupleIter i1 a i ∧ h.IsListIter i2 b i) where
  mem := by simp
  obj := fun i h st c hc => by
    obtain ⟨hz, hTI, ⟨x, y, hTO⟩, ⟨o1, e1, _, d1⟩, ⟨o2, e2, _, d2⟩⟩ := st
    have e' : c = z ∨ c = TI ∨ c = TO ∨ c = i1 ∨ c = i2 := by simpa using hc
    rcases e' with q | q | q | q | q
    · rw [q]; exact ⟨_, hz, fun v q => nomatch q⟩
    · rw [q]; exact ⟨_, hTI, fun v q => nomatch q⟩
    · rw [q]; exact ⟨_, hTO, fun v q => nomatch q⟩
    · rw [q]; exact ⟨o1, e1, fun v q => by rw [d1] at q; cases q⟩
    · rw [q]; exact ⟨o2, e2, fun v q => by rw [d2] at q; cases q⟩
  keep := fun i h h' st k => by
    obtain ⟨hz, hTI, ⟨x, y, hTO⟩, h1, h2⟩ := st
    exact ⟨k z (by simp) _ hz, k TI (by simp) _ hTI, ⟨x, y, k TO (by simp) _ hTO⟩, h1.at fun o q => k i1 (by simp) o q, h2.at fun o q => k i2 (by simp) o q⟩
  item := by
    intro X hP hw hK hc i pins s σ H E I hf st hg
    subst hP hw hK
    obtain ⟨hz, hTI, ⟨x0, y0, hTO⟩, h1, h2⟩ := st
    obtain ⟨xs, ys, x, y, hqx, hqy, hx, hy⟩ := hg
    obtain ⟨its, rv, p, _⟩ := I.tuple hqx
    obtain ⟨its2, rv2, p2', _⟩ := I.list hqy
    have p2 := p2'.isList
    have p1 : s.heap.IsTuple a its.toArray := p
    obtain ⟨u, hu, ru⟩ := rv.get hx
    obtain ⟨u2, hu2, ru2⟩ := rv2.get hy
    have hzl : z < s.heap.objs.size := Heap.lt_size hz
    have hh : X.A.in1.handled = none := I.ok.hd hc
    have D1 : Draws X.prog X.w X.A.in1 i1 [i1, a] its.toArray.size (fun i v => its.toArray[i]? = some v) (fun i h => h.IsTupleIter i1 a i ∧ h.IsTuple a its.toArray) := Draws.tuple hh i1 a D.l1i1 its.toArray
    have D2 : Draws X.prog X.w X.A.in1 i2 [i2, b] its2.toArray.size (fun i v => its2.toArray[i]? = some v) (fun i h => h.IsListIter i2 b i ∧ h.IsList b its2.toArray) := Draws.list hh i2 b D.l2i2 its2.toArray
    have lt1 : i < its.toArray.size := by rw [List.size_toArray]; exact (List.getElem?_eq_some_iff.mp hu).1
    have lt2 : i < its2.toArray.size := by rw [List.size_toArray]; exact (List.getElem?_eq_some_iff.mp hu2).1
    refine wpAny_pyNext_zipD2_item (sep_of D) D1 D2 hz hTI hTO ⟨h1, p1⟩ ⟨h2, p2⟩ lt1 lt2 fun x' y' h' tk hx' hy' z' TO' st1' st2' hT hsz hk => ?_
    have ex : x' = u := by
      have h1 : its[i]? = some x' := by simpa using hx'
      rw [hu] at h1; exact (Option.some.inj h1).symm
    have ey : y' = u2 := by
      have h1 : its2[i]? = some y' := by simpa using hy'
      rw [hu2] at h1; exact (Option.some.inj h1).symm
    subst ex ey
    refine ⟨_, rfl, wpAny_letOwnedTupleGo_zip (s := { s with heap := h', toks := tk }) z' fun h'' z'' sb => ?_⟩
    have hT2 : h''.get? s.heap.objs.size = some { cls := .type "tuple", data := .seq #[x', y'] } := (sb.2 _ (Nat.ne_of_gt hzl)).trans hT
    have new : ObjOk X.prog X.w (upd H s.heap.objs.size (.tup [x, y])) h'' s.heap.objs.size (.tup [x, y]) :=
      ⟨by show 2 ≤ sizeLine; decide, [x', y'], .cons ru (.cons ru2 .nil), ⟨_, hT2, rfl, _, rfl⟩⟩
    have I1 : Inv X pins σ (upd H s.heap.objs.size (.tup [x, y])) { s with heap := h'', toks := tk } :=
      I.turnedNew (t' := tk) (ch := [z, TI, TO, i1, i2]) (fun c o hb q => (sb.2 c (fun q' => hb (by simp [q']))).trans (hk c o (fun q' => hb (by simp [q'])) (fun q' => hb (by simp [q'])) (fun q' => hb (by simp [q'])) (fun q' => hb (by simp [q'])) q)) hf (Nat.le_refl _) new
    refine ⟨.ref s.heap.objs.size, _, I1, rfl, ⟨_, x, y, rfl, I.hok.fresh (Nat.le_refl _), rfl, fun l hl => by rw [I.tuple_inj hl hqx]; exact hx, fun l hl => by rw [I.list_inj hl hqy]; exact hy⟩, ⟨z'', ?_, ⟨x', y', ?_⟩, ?_, ?_⟩, fun c hcm => ?_⟩
    · exact (sb.2 _ D.TIz).trans (hk _ _ D.TIz D.TITO D.TIi1 D.TIi2 hTI)
    · exact (sb.2 _ D.TOz).trans TO'
    · exact st1'.1.at fun o q => (sb.2 _ D.i1z).trans q
    · exact st2'.1.at fun o q => (sb.2 _ D.i2z).trans q
    · have hlt : c < s.heap.objs.size := by
        have e' : c = z ∨ c = TI ∨ c = TO ∨ c = i1 ∨ c = i2 := by simpa using hcm
        rcases e' with q | q | q | q | q
        · rw [q]; exact hzl
        · rw [q]; exact Heap.lt_size hTI
        · rw [q]; exact Heap.lt_size hTO
        · rw [q]; obtain ⟨_, e1, _⟩ := h1; exact Heap.lt_size e1
        · rw [q]; obtain ⟨_, e2, _⟩ := h2; exact Heap.lt_size e2
      rw [upd_ne (Nat.ne_of_lt hlt)]
      exact (hf c hcm).1
  done := by
    intro X hP hw hK hc i pins s σ H E I hf st hg
    subst hP hw hK
    obtain ⟨hz, hTI, ⟨x0, y0, hTO⟩, h1, h2⟩ := st
    obtain ⟨xs, ys, hqx, hqy, hend⟩ := hg
    obtain ⟨its, rv, p, _⟩ := I.tuple hqx
    obtain ⟨its2, rv2, p2', _⟩ := I.list hqy
    have l1 := rv.length
    have l2 := rv2.length
    have hh : X.A.in1.handled = none := I.ok.hd hc
    obtain ⟨n1, St1, D1, le1, q1, s1⟩ := drawT (X := X) hh i1 a D.l1i1 its.toArray i
    obtain ⟨n2, St2, D2, le2, q2, s2⟩ := drawL (X := X) hh i2 b D.l2i2 its2.toArray i
    have he : i = n1 ∨ i = n2 := by
      rcases hend with q | q
      · exact .inl (q1 (by simp; omega))
      · exact .inr (q2 (by simp; omega))
    exact wpAny_pyNext_zipD2_end (sep_of D) D1 D2 hz hTI hTO (s1 _ h1 p) (s2 _ h2 p2'.isList) le1 le2 he fun h' tk hk => ⟨rfl, I.turnedL (t' := tk) (ch := [z, TI, TO, i1, i2]) (fun c o hb q =>
      hk c o (fun q' => hb (by simp [q'])) (fun q' => hb (by simp [q'])) (fun q' => hb (by simp [q'])) (fun q' => hb (by simp [q'])) q) hf⟩
  self := fun A i s Q E st h => wpAny_pyIter_zip st.1 h
def iZipM (K : PySem.W.Frag) (ta : TA) : TI := fun σ H R => ta σ H fun vs H1 => ∃ a b xs ys, vs = [.ref a, .ref b] ∧ SqT K H1 a xs ∧ SqL K H1 b ys ∧ R (ItzM K a b) H1
theorem pi_zipM {X : Cx} {e e2 : Expr} {ta : TA} {p pos tpos : Pos} {elts : List Expr} {kk : Nat} (hg : Gl X "zip") (hm : X.mg "zip" = none) (ha : PA X [e, e2] ta)
    (hs : starEach [e, e2] X.env = (false, eval e X.env) :: starEach [e2] X.env := by rfl) (hpl : (backTo pos (starEach [e2] X.env)).any (·.1) = false := by rfl) :
    PI X (.Tuple elts kk tpos) (.Call (.Name "zip" p) [e, e2] [] pos) (iZipM X.K ta) := by
  refine ⟨fun pins s σ H R I h => ?_⟩
  refine Call_ (ld_blt I hg hm PyProof.Rows.boot_zip (PyProof.Rows.callWith_type1 (thn (ha.run pos pins s σ H _ I h) fun us s1 ⟨vs, H1, I1, r1, q1⟩ => ?_) hs hpl))
  obtain ⟨a, b, xs, ys, ex, hqx, hqy, q⟩ := q1
  subst ex
  cases r1 with
  | cons r rr =>
    cases rr with
    | cons r' rr =>
      cases rr
      cases r
      cases r'
      have fresh5 : ∀ c, c ∈ [s1.heap.objs.size + 4, s1.heap.objs.size + 2, s1.heap.objs.size + 3, s1.heap.objs.size, s1.heap.objs.size + 1] → FpOk X pins H1 c := fun c hcm => by
        have e' : c = s1.heap.objs.size + 4 ∨ c = s1.heap.objs.size + 2 ∨ c = s1.heap.objs.size + 3 ∨ c = s1.heap.objs.size ∨ c = s1.heap.objs.size + 1 := by simpa using hcm
        have hle : s1.heap.objs.size ≤ c := by
          rcases e' with z | z | z | z | z
          · rw [z]; exact Nat.le_add_right _ _
          · rw [z]; exact Nat.le_add_right _ _
          · rw [z]; exact Nat.le_add_right _ _
          · rw [z]; exact Nat.le_refl _
          · rw [z]; exact Nat.le_add_right _ _
        exact I1.fpOk hle (I1.hok.fresh hle)
      obtain ⟨its, rv, p1, _⟩ := I1.tuple hqx
      obtain ⟨its2, rv2, p2, _⟩ := I1.list hqy
      have p1' : s1.heap.IsTuple a its.toArray := p1
      obtain ⟨o1, ho1, _⟩ := id p1'
      refine zip_begins2 (begins_tuple a its.toArray) (begins_list b its2.toArray) p1' p2.isList fun h' hz hTI hTO h1 h2 hsz hk => wpAny_pyIter_zip hz ?_
      have I2 : Inv X pins σ H1 { s1 with heap := h' } := I1.kept (t' := s1.toks) hk
      exact ⟨s1.heap.objs.size + 4, [s1.heap.objs.size + 4, s1.heap.objs.size + 2, s1.heap.objs.size + 3, s1.heap.objs.size, s1.heap.objs.size + 1], _, _, H1, rfl, I2, turn_zipM (PySem.W.ktu_apart s1.heap.objs.size a b (Heap.lt_size ho1) p2.lt), ⟨hz, hTI, ⟨_, _, hTO⟩, ⟨_, h1, rfl, rfl⟩, ⟨_, h2, rfl, rfl⟩⟩, fresh5, q⟩
end L2
namespace DL
open PySem PySem.Spec PyProof.Rows L2
def rZipM (a : RA) : RA := fun δ S => (a δ S).bind fun xs S1 => match xs with
  | [.tup ds, .lst es] => .ok (zipD ds es) S1
  | _ => .stuck
section
variable {wd : World} {K : Fg} {mg : Str → Option Value} {α : List Addr} {F H : Hp} {S : Sto}
theorem it_zipM {l m : Addr} {us ws : List V} {ds es : List D} (h : SqT K F l us) (hv : DVs wd K mg F α us ds) (g : SqL K F m ws) (gv : DVs wd K mg F α ws es) : ItOk wd K mg F α (ItzM K l m) (zipD ds es) where
  go := fun F' H' i a b hi => by
    rw [zipD_len] at hi
    obtain ⟨v, e1, _⟩ := hv.get (List.getElem?_eq_getElem (by omega : i < ds.length))
    obtain ⟨u, e2, _⟩ := gv.get (List.getElem?_eq_getElem (by omega : i < es.length))
    exact ⟨us, ws, v, u, (a.trans b).sqT h, (a.trans b).sqL g, e1, e2⟩
  stop := fun F' H' a b => ⟨us, ws, (a.trans b).sqT h, (a.trans b).sqL g, by rw [hv.length, gv.length, zipD_len]; omega⟩
  yld := fun F' H' H2 i x d a b hd ⟨T, y, y2, e1, e2, e3, e4, e5⟩ => by
    have f1 := e4 us ((a.trans b).sqT h)
    have f2 := e5 ws ((a.trans b).sqL g)
    obtain ⟨p, q, e6, e7, rfl⟩ := zipD_get hd
    obtain ⟨v, e8, e9⟩ := hv.get e6
    rw [f1] at e8; cases e8
    obtain ⟨v2, e10, e11⟩ := gv.get e7
    rw [f2] at e10; cases e10
    subst e1
    have nF : F' T = none := by
      cases z : F' T with
      | none => rfl
      | some u => rw [b _ _ z] at e2; cases e2
    have sb := a.trans (Sub.new (o := .tup [y, y2]) nF)
    refine .inr ⟨T, _, e2, e3, .tux (SqT.of upd_same) (.cons ?_ (.cons ?_ .nil))⟩
    · have := e9.mono (β := []) sb
      rw [List.append_nil] at this; exact this
    · have := e11.mono (β := []) sb
      rw [List.append_nil] at this; exact this
end
section
variable {X : Cx} {W : WX} {a b : Expr} {rs : RA} {pos p : Pos}
theorem pid_zipM {elts : List Expr} {kk : Nat} {tpos : Pos} (hm : X.mg "zip" = none) (ha : PDs X W [a, b] rs) (hg : Gl X "zip" := by rfl) (hs : starEach [a, b] X.env = (false, eval a X.env) :: starEach [b] X.env := by rfl) (hpl : (backTo pos (starEach [b] X.env)).any (·.1) = false := by rfl) : PId X W (.Tuple elts kk tpos) (.Call (.Name "zip" p) [a, b] [] pos) (rZipM rs) := by
  obtain ⟨t, p1, s1⟩ := ha.ex
  refine ⟨_, pi_zipM hg hm p1 hs hpl, fun α F σ H δ S Q hr hs h => ?_⟩
  refine s1 α F σ H δ S _ hr hs (wp.bind h fun ds S1 e1 xs H1 β F1 r1 q1 v1 h1 => ?_)
  have hl := ha.len _ _ _ _ e1
  match ds, hl with
  | [d, d'], _ =>
    cases v1 with
    | cons v1 vn =>
      cases vn with
      | cons v2 vn =>
        cases vn
        cases d with
        | tup ys =>
          cases d' with
          | lst zs =>
            cases v1 with
            | tup a1 a2 => cases v2 with
              | lst b1 b2 => exact ⟨_, _, _, _, rfl, r1.sub.sqT a1.1, r1.sub.sqL b1, h1.now r1 (it_zipM a1.1 a2 b1 b2)⟩
          | _ => exact h1.elim
        | _ => exact h1.elim
end
end DL
set_option Elab.async false
set_option linter.all false
set_option maxRecDepth 100000
set_option maxHeartbeats 4000000
set_option autoImplicit false
/-! range by a step of -1; zip of three lists. -/
namespace L2
open PySem PySem.Spec PyProof.Rows
end L2
set_option Elab.async false
set_option linter.all false
set_option maxRecDepth 100000
set_option maxHeartbeats 4000000
set_option autoImplicit false
/-! sorted of a tuple; len of a dict. -/
namespace PySem.W
open PySem PySem.Calls PyProof.Rows
end PySem.W
set_option Elab.async false
set_option linter.all false
set_option maxRecDepth 100000
set_option maxHeartbeats 4000000
set_option autoImplicit false
/-! a, b, c = x, y, z. -/
set_option Elab.async false
set_option linter.all false
set_option maxRecDepth 100000
set_option maxHeartbeats 4000000
set_option autoImplicit false
/-! list(d.items()), list(d), displays with tuple keys, d.values(), isinstance of one of some classes, defs that call themselves. -/
set_option Elab.async false
set_option linter.all false
set_option maxRecDepth 100000
set_option maxHeartbeats 4000000
set_option autoImplicit false
/-! Displays with tuple keys, d.values(), isinstance of one of some classes, defs that call themselves. -/
namespace DL
open PySem PySem.Spec PyProof.Rows L2
/-! ### {t: v, ..} with tuples for keys -/
/-! ### for v in d.values(), d locked -/
/-! ### isinstance(x, (T, U, ..)) -/
/-! ### in, by itself -/
/-! ### defs that call themselves -/
/-- nothing is promised -/
def mStuck : Mir := fun _ _ => .stuck
theorem fn_stuck {P : Program} {w : World} {K : Fg} {mg : Str → Option Value} {base : Heap} {x : Str} {st : Stmt} {ps : List Str} {k : Nat} (Fu : Fd K mg x st ps) : Fn P w K mg base x ps.length k mStuck := by
  obtain ⟨f, fd, h1, h2, h3⟩ := Fu.ex
  exact ⟨f, fd, ps, h2, h1.kp, h3, fun vs H Q E h => h.1, fun A outer s H args us vs Q E hr hG e0 hb rv hsp => by
    obtain ⟨_, α, F, S, ds, _, _, h⟩ := hsp
    exact h.elim⟩
end DL
set_option Elab.async false
set_option linter.all false
set_option maxRecDepth 100000
set_option maxHeartbeats 0
set_option autoImplicit false
namespace DL
open PySem L2
def b_is_whole : RS := (sRet (rAnd (rAs gIsi (rCons (rVar 0) (rCons (rC (.ty "int")) rNil))) (rNot (rAs gIsi (rCons (rVar 0) (rCons (rC (.ty "bool")) rNil))))))
def m_is_whole : Mir := mDef 1 b_is_whole
def b_is_square : RS := (sSeq (sIf (bOr (bNot (bTru (rAs gIsi (rCons (rVar 0) (rCons (rC (.ty "tuple")) rNil))))) (bNot (bVal (rChain gLeU gLeU (rC (.int 1)) (rAs gLen (rCons (rVar 0) rNil)) (rC (.int 6)))))) (sRet (rC (.bl false))) sNext)
    (sSeq (sFor (rSeq (rVar 0)) (gName 1) (sIf (bOr (bNot (bTru (rAs gIsi (rCons (rVar 1) (rCons (rC (.ty "tuple")) rNil))))) (bOr (bVal (rBin gNe (rAs gLen (rCons (rVar 1) rNil)) (rAs gLen (rCons (rVar 0) rNil)))) (bNot (bTru (rAs gAll (rCons (rKeep (rLc (rSeq (rVar 1)) (gName 2) [2] bYes (rCall m_is_whole (rCons (rVar 2) rNil)))) rNil)))))) (sRet (rC (.bl false))) sNext))
    (sRet (rC (.bl true)))))
def m_is_square : Mir := mDef 3 b_is_square
def b_square_times : RS := (sSeq (sAsg (rKeep (rLc (rRange (rCons (rAs gLen (rCons (rVar 1) rNil)) rNil)) (gName 5) [5] bYes (rKeep (rLc (rSeq (rVar 1)) (gName 4) [4] bYes (rBin gIx (rVar 4) (rVar 5)))))) (gName 2))
    (sSeq (sAsg (rOwn (rLst rNil)) (gName 3))
    (sSeq (sFor (rSeq (rVar 0)) (gName 4) (sExpr (rMeth "list" mAppend (rVar 3) (rCons (rAs gTuple (rCons (rKeep (rLc (rSeq (rVar 2)) (gName 6) [6] bYes (rAs gSum (rCons (rKeep (rLc (rZipM (rCons (rVar 4) (rCons (rVar 6) rNil))) (gTup (gCons (gName 7) (gCons (gName 8) gNil))) [7, 8] bYes (rBin gMul (rVar 7) (rVar 8)))) rNil)))) rNil)) rNil))))
    (sRet (rAs gTuple (rCons (rVar 3) rNil))))))
def m_square_times : Mir := mDef 9 b_square_times
def b_square_one : RS := (sRet (rAs gTuple (rCons (rKeep (rLc (rRange (rCons (rVar 0) rNil)) (gName 2) [2] bYes (rAs gTuple (rCons (rKeep (rLc (rRange (rCons (rVar 0) rNil)) (gName 3) [3] bYes (rBin gMul (rVar 1) (rAs gInt (rCons (rBin gEq (rVar 3) (rVar 2)) rNil))))) rNil)))) rNil)))
def m_square_one : Mir := mDef 4 b_square_one
def b_square_power : RS := (sSeq (sAsg (rCall m_square_one (rCons (rAs gLen (rCons (rVar 0) rNil)) (rCons (rC (.int 1)) rNil))) (gName 2))
    (sSeq (sFor (rRange (rCons (rVar 1) rNil)) (gName 3) (sAsg (rCall m_square_times (rCons (rVar 2) (rCons (rVar 0) rNil))) (gName 2)))
    (sRet (rVar 2))))
def m_square_power : Mir := mDef 4 b_square_power
def b_square_sum : RS := (sRet (rAs gTuple (rCons (rKeep (rLc (rZipA (rCons (rVar 0) (rCons (rVar 1) rNil))) (gTup (gCons (gName 2) (gCons (gName 3) gNil))) [2, 3] bYes (rAs gTuple (rCons (rKeep (rLc (rZipA (rCons (rVar 2) (rCons (rVar 3) rNil))) (gTup (gCons (gName 4) (gCons (gName 5) gNil))) [4, 5] bYes (rBin gAdd (rVar 4) (rVar 5)))) rNil)))) rNil)))
def m_square_sum : Mir := mDef 6 b_square_sum
def b_square_poly : RS := (sSeq (sAsg (rAs gLen (rCons (rVar 0) rNil)) (gName 1))
    (sSeq (sAsg (rOwn (rLst (rCons (rC (.int 1)) rNil))) (gName 2))
    (sSeq (sAsg (rCall m_square_one (rCons (rVar 1) (rCons (rC (.int 1)) rNil))) (gName 3))
    (sSeq (sFor (rRange (rCons (rC (.int 1)) (rCons (rBin gAdd (rVar 1) (rC (.int 1))) rNil))) (gName 4) (sSeq (sAsg (rCall m_square_times (rCons (rVar 0) (rCons (rVar 3) rNil))) (gName 3))
    (sSeq (sAsg (rBin gSub (rC (.int 0)) (rBin gDiv (rAs gSum (rCons (rKeep (rLc (rRange (rCons (rVar 1) rNil)) (gName 6) [6] bYes (rBin gIx (rBin gIx (rVar 3) (rVar 6)) (rVar 6)))) rNil)) (rVar 4))) (gName 5))
    (sSeq (sExpr (rMeth "list" mInsert (rVar 2) (rCons (rC (.int 0)) (rCons (rVar 5) rNil))))
    (sAsg (rCall m_square_sum (rCons (rVar 3) (rCons (rCall m_square_one (rCons (rVar 1) (rCons (rVar 5) rNil))) rNil))) (gName 3))))))
    (sRet (rAs gTuple (rCons (rVar 2) rNil)))))))
def m_square_poly : Mir := mDef 7 b_square_poly
def b__law_mixed : RS := (sSeq (sAsg (rBin gMod (rBin gMul (rBin gAdd (rBin gAdd (rBin gMod (rVar 0) (rC (.int 1000000007))) (rBin gMul (rC (.int 7919)) (rVar 1))) (rC (.int 13))) (rC (.int 48271))) (rC (.int 2147483647))) (gName 2))
    (sRet (rBin gDiv (rBin gMod (rBin gMul (rVar 2) (rVar 2)) (rC (.int 2147483629))) (rC (.int 3)))))
def m__law_mixed : Mir := mDef 3 b__law_mixed
def b__law_begun : RS := (sSeq (sAsg (rOr (rStep (rVar 0) (oSome (rVar 1)) oNone (oSome (rVar 2))) (rKeep (rLst (rCons (rVar 1) rNil)))) (gName 3))
    (sSeq (sAsg (rAs gMax (rCons (rVar 3) rNil)) (gName 4))
    (sRet (rOwn (rDisp [((rC (.str "rest")), (rBin gMul (rVar 4) (rAs gInt (rCons (rBin gGeU (rVar 4) (rBin gPow (rC (.int 10)) (rC (.int 18)))) rNil)))), ((rC (.str "mixed")), (rCall m__law_mixed (rCons (rCall m__law_mixed (rCons (rAs gSum (rCons (rVar 3) rNil)) (rCons (rVar 1) rNil))) (rCons (rAs gLen (rCons (rVar 3) rNil)) rNil))))])))))
def m__law_begun : Mir := mDefK 5 b__law_begun
def b__law_next : RS := (sSeq (sIf (bVal (rBin gGtU (rBin gGetU (rVar 0) (rC (.str "rest"))) (rC (.int 0)))) (sSeq (sAsg (rBin gMod (rBin gGetU (rVar 0) (rC (.str "rest"))) (rVar 1)) (gName 2))
    (sSeq (sPutU (rVar 0) (rC (.str "rest")) (rBin gDiv (rBin gGetU (rVar 0) (rC (.str "rest"))) (rVar 1)))
    (sRet (rVar 2)))) sNext)
    (sSeq (sPutU (rVar 0) (rC (.str "mixed")) (rCall m__law_mixed (rCons (rCall m__law_mixed (rCons (rBin gGetU (rVar 0) (rC (.str "mixed"))) (rCons (rVar 1) rNil))) (rCons (rC (.int 5)) rNil))))
    (sRet (rBin gMod (rBin gGetU (rVar 0) (rC (.str "mixed"))) (rVar 1)))))
def m__law_next : Mir := mDef 3 b__law_next
def fuel__law_around_0 : Sl → Sto → Nat := fun _ _ => 100
def b__law_around : RS := (sSeq (sIf (bVal (rBin gLtU (rVar 1) (rC (.int 500000)))) (sRet (rBin gSub (rCall m__law_next (rCons (rVar 0) (rCons (rBin gAdd (rBin gMul (rC (.int 2)) (rVar 1)) (rC (.int 1))) rNil))) (rVar 1))) sNext)
    (sSeq (sAsg (rTup (rCons (rC (.int 0)) (rCons (rC (.int 1)) rNil))) (gTup (gCons (gName 2) (gCons (gName 3) gNil))))
    (sSeq (sWhile fuel__law_around_0 (bVal (rBin gLtU (rVar 3) (rBin gAdd (rBin gMul (rC (.int 2)) (rVar 1)) (rC (.int 1))))) (sPar 2 3 (rCons (rBin gAdd (rBin gMul (rVar 2) (rC (.int 1000000))) (rCall m__law_next (rCons (rVar 0) (rCons (rC (.int 1000000)) rNil)))) (rCons (rBin gMul (rVar 3) (rC (.int 1000000))) rNil))))
    (sRet (rBin gSub (rBin gMod (rVar 2) (rBin gAdd (rBin gMul (rC (.int 2)) (rVar 1)) (rC (.int 1)))) (rVar 1))))))
def m__law_around : Mir := mDef 4 b__law_around
def b__law_numbers : RS := (sSeq (sAsg (rBin gIx (rKeep (rLst (rCons (rC (.int 1)) (rCons (rC (.int 2)) (rCons (rC (.int 9)) (rCons (rC (.int 99)) (rCons (rBin gPow (rC (.int 10)) (rC (.int 40))) rNil))))))) (rCall m__law_next (rCons (rVar 0) (rCons (rC (.int 5)) rNil)))) (gName 2))
    (sRet (rAs gTuple (rCons (rKeep (rLc (rRange (rCons (rVar 1) rNil)) (gName 3) [3] bYes (rAs gTuple (rCons (rKeep (rLc (rRange (rCons (rVar 1) rNil)) (gName 4) [4] bYes (rCall m__law_around (rCons (rVar 0) (rCons (rVar 2) rNil))))) rNil)))) rNil))))
def m__law_numbers : Mir := mDef 5 b__law_numbers
def b__law_product : RS := (sSeq (sAsg (rKeep (rListR (rAs gLen (rCons (rVar 0) rNil)))) (gName 2))
    (sSeq (sAsg (rOwn (rLst rNil)) (gName 3))
    (sSeq (sFor (rSeq (rVar 0)) (gName 4) (sExpr (rMeth "list" mAppend (rVar 3) (rCons (rAs gTuple (rCons (rKeep (rLc (rSeq (rVar 2)) (gName 5) [5] bYes (rAs gSum (rCons (rKeep (rLc (rSeq (rVar 2)) (gName 6) [6] bYes (rBin gMul (rBin gIx (rVar 4) (rVar 6)) (rBin gIx (rBin gIx (rVar 1) (rVar 6)) (rVar 5))))) rNil)))) rNil)) rNil))))
    (sRet (rAs gTuple (rCons (rVar 3) rNil))))))
def m__law_product : Mir := mDef 7 b__law_product
def b__law_poly_sum : RS := (sSeq (sAsg (rAs gMax (rCons (rAs gLen (rCons (rVar 0) rNil)) (rCons (rAs gLen (rCons (rVar 1) rNil)) rNil))) (gName 2))
    (sSeq (sAsg (rKeep (rBin gCat (rVar 0) (rKeep (rBin gRepF (rLst (rCons (rC (.int 0)) rNil)) (rBin gSub (rVar 2) (rAs gLen (rCons (rVar 0) rNil))))))) (gName 0))
    (sSeq (sAsg (rKeep (rBin gCat (rVar 1) (rKeep (rBin gRepF (rLst (rCons (rC (.int 0)) rNil)) (rBin gSub (rVar 2) (rAs gLen (rCons (rVar 1) rNil))))))) (gName 1))
    (sRet (rKeep (rLc (rZipA (rCons (rVar 0) (rCons (rVar 1) rNil))) (gTup (gCons (gName 3) (gCons (gName 4) gNil))) [3, 4] bYes (rBin gAdd (rVar 3) (rVar 4))))))))
def m__law_poly_sum : Mir := mDef 5 b__law_poly_sum
def b__law_poly_product : RS := (sSeq (sAsg (rOwn (rBin gRepF (rLst (rCons (rC (.int 0)) rNil)) (rBin gSub (rBin gAdd (rAs gLen (rCons (rVar 0) rNil)) (rAs gLen (rCons (rVar 1) rNil))) (rC (.int 1))))) (gName 2))
    (sSeq (sFor (rEnum (rCons (rVar 0) rNil)) (gTup (gCons (gName 3) (gCons (gName 4) gNil))) (sFor (rEnum (rCons (rVar 1) rNil)) (gTup (gCons (gName 5) (gCons (gName 6) gNil))) (sSetL (rVar 2) (rBin gAdd (rVar 3) (rVar 5)) (rBin gAdd (rBin gIx (rVar 2) (rBin gAdd (rVar 3) (rVar 5))) (rBin gMul (rVar 4) (rVar 6))))))
    (sRet (rVar 2))))
def m__law_poly_product : Mir := mDef 7 b__law_poly_product
def b__law_determinant (rec : Mir) : RS := (sSeq (sIf (bVal (rBin gEq (rVar 0) (rKeep (rLst rNil)))) (sRet (rKeep (rLst (rCons (rC (.int 1)) rNil)))) sNext)
    (sSeq (sAsg (rKeep (rLst (rCons (rC (.int 0)) rNil))) (gName 1))
    (sSeq (sFor (rEnum (rCons (rBin gIx (rVar 0) (rC (.int 0))) rNil)) (gTup (gCons (gName 2) (gCons (gName 3) gNil))) (sSeq (sAsg (rCall rec (rCons (rKeep (rLc (rSeq (rCut (rVar 0) (oSome (rC (.int 1))) oNone)) (gName 6) [6] bYes (rKeep (rBin gCat (rCut (rVar 6) oNone (oSome (rVar 2))) (rCut (rVar 6) (oSome (rBin gAdd (rVar 2) (rC (.int 1)))) oNone))))) rNil)) (gName 4))
    (sSeq (sAsg (rKeep (rLc (rSeq (rVar 3)) (gName 7) [7] bYes (rIf (bVal (rBin gEq (rBin gMod (rVar 2) (rC (.int 2))) (rC (.int 1)))) (rBin gSub (rC (.int 0)) (rVar 7)) (rVar 7)))) (gName 5))
    (sAsg (rCall m__law_poly_sum (rCons (rVar 1) (rCons (rCall m__law_poly_product (rCons (rVar 5) (rCons (rVar 4) rNil))) rNil))) (gName 1)))))
    (sRet (rVar 1)))))
def mr__law_determinant : Nat → Mir
  | 0 => mStuck
  | n + 1 => mDef 8 (b__law_determinant (mr__law_determinant n))
def m__law_determinant : Mir := mr__law_determinant 8
def b__law_poly : RS := (sSeq (sAsg (rOwn (rLst rNil)) (gName 1))
    (sSeq (sFor (rEnumT (rCons (rVar 0) rNil)) (gTup (gCons (gName 2) (gCons (gName 3) gNil))) (sExpr (rMeth "list" mAppend (rVar 1) (rCons (rKeep (rLc (rEnumT (rCons (rVar 3) rNil)) (gTup (gCons (gName 4) (gCons (gName 5) gNil))) [4, 5] bYes (rIf (bVal (rBin gEq (rVar 2) (rVar 4))) (rKeep (rLst (rCons (rBin gSub (rC (.int 0)) (rVar 5)) (rCons (rC (.int 1)) rNil)))) (rKeep (rLst (rCons (rBin gSub (rC (.int 0)) (rVar 5)) rNil)))))) rNil))))
    (sSeq (sFreeze 1)
    (sRet (rAs gTuple (rCons (rCut (rCall m__law_determinant (rCons (rVar 1) rNil)) oNone (oSome (rBin gAdd (rAs gLen (rCons (rVar 0) rNil)) (rC (.int 1))))) rNil))))))
def m__law_poly : Mir := mDef 6 b__law_poly
def b__law_no_square : RS := (sSeq (sAsg (rBin gIx (rVar 1) (rC (.int 0))) (gName 2))
    (sSeq (sAsg (rOwn (rLst (rCons (rC .non) (rCons (rC (.int 5)) (rCons (rTup rNil) (rCons (rC (.str "square")) (rCons (rKeep (rLc (rSeq (rVar 1)) (gName 4) [4] bYes (rKeep (rAs gList (rCons (rVar 4) rNil))))) (rCons (rKeep (rAs gList (rCons (rVar 1) rNil))) (rCons (rOwn (rC (.dct []))) (rCons (rBin gAdd (rVar 1) (rTup (rCons (rVar 2) rNil))) (rCons (rBin gAdd (rCut (rVar 1) (oSome (rC (.int 1))) oNone) (rTup (rCons (rTup rNil) rNil))) rNil))))))))))) (gName 3))
    (sSeq (sAsg (rOwn (rBin gCat (rVar 3) (rKeep (rLst (rCons (rAs gTuple (rCons (rKeep (rLc (rSeq (rVar 1)) (gName 4) [4] bYes (rBin gAdd (rVar 4) (rTup (rCons (rC (.int 0)) rNil))))) rNil)) (rCons (rBin gAdd (rCut (rVar 1) oNone (oSome (rUn gNeg (rC (.int 1))))) (rTup (rCons (rBin gAdd (rCut (rVar 2) oNone (oSome (rUn gNeg (rC (.int 1))))) (rTup (rCons (rC (.bl true)) rNil))) rNil))) (rCons (rVar 2) (rCons (rTup (rCons (rTup (rCons (rC (.int 1)) (rCons (rC (.int 0)) rNil))) rNil)) (rCons (rC (.bl true)) rNil))))))))) (gName 3))
    (sSeq (sAsg (rOwn (rBin gCat (rVar 3) (rKeep (rLst (rCons (rBin gAdd (rCut (rVar 1) oNone (oSome (rUn gNeg (rC (.int 1))))) (rTup (rCons (rKeep (rAs gList (rCons (rVar 2) rNil))) rNil))) (rCons (rBin gAdd (rCut (rVar 1) oNone (oSome (rUn gNeg (rC (.int 1))))) (rTup (rCons (rBin gAdd (rCut (rVar 2) oNone (oSome (rUn gNeg (rC (.int 1))))) (rTup (rCons (rC (.str "1")) rNil))) rNil))) (rCons (rBin gAdd (rCut (rVar 1) oNone (oSome (rUn gNeg (rC (.int 1))))) (rTup (rCons (rBin gAdd (rCut (rVar 2) oNone (oSome (rUn gNeg (rC (.int 1))))) (rTup (rCons (rC .non) rNil))) rNil))) rNil))))))) (gName 3))
    (sSeq (sExpr (rMeth "list" mAppend (rVar 3) (rCons (rAs gTuple (rCons (rKeep (rLc (rRange (rCons (rC (.int 7)) rNil)) (gName 5) [5] bYes (rAs gTuple (rCons (rKeep (rBin gRepF (rLst (rCons (rC (.int 0)) rNil)) (rC (.int 7)))) rNil)))) rNil)) rNil)))
    (sRet (rBin gIx (rVar 3) (rCall m__law_next (rCons (rVar 0) (rCons (rAs gLen (rCons (rVar 3) rNil)) rNil))))))))))
def m__law_no_square : Mir := mDef 6 b__law_no_square
def b__law_are_whole : RS := (sSeq (sFor (rSeq (rVar 0)) (gName 1) (sIf (bOr (bNot (bTru (rAs gIsi (rCons (rVar 1) (rCons (rC (.ty "tuple")) rNil))))) (bNot (bTru (rAs gAll (rCons (rKeep (rLc (rSeq (rVar 1)) (gName 2) [2] bYes (rAnd (rAs gIsi (rCons (rVar 2) (rCons (rC (.ty "int")) rNil))) (rNot (rAs gIsi (rCons (rVar 2) (rCons (rC (.ty "bool")) rNil))))))) rNil))))) (sRet (rC (.bl false))) sNext))
    (sRet (rAs gIsi (rCons (rVar 0) (rCons (rC (.ty "tuple")) rNil)))))
def m__law_are_whole : Mir := mDef 3 b__law_are_whole
def b_law : RS := (sSeq (sFor (rEnum (rCons (rCut (rOr (rVar 0) (rKeep (rLst (rCons (rC (.int 4)) rNil)))) oNone (oSome (rC (.int 10)))) rNil)) (gTup (gCons (gName 1) (gCons (gName 2) gNil))) (sSeq (sAsg (rCall m__law_begun (rCons (rKeep (rBin gCat (rKeep (rLst (rCons (rVar 2) rNil))) (rVar 0))) (rCons (rC (.int 0)) (rCons (rBin gAdd (rC (.int 2)) (rVar 1)) rNil)))) (gName 3))
    (sSeq (sAsg (rBin gIx (rKeep (rLst (rCons (rC (.int 1)) (rCons (rC (.int 2)) (rCons (rC (.int 3)) (rCons (rC (.int 4)) (rCons (rC (.int 2)) (rCons (rC (.int 3)) (rCons (rC (.int 5)) (rCons (rC (.int 6)) rNil)))))))))) (rCall m__law_next (rCons (rVar 3) (rCons (rC (.int 8)) rNil)))) (gName 4))
    (sSeq (sPar 5 6 (rCons (rCall m__law_numbers (rCons (rVar 3) (rCons (rVar 4) rNil))) (rCons (rCall m__law_numbers (rCons (rVar 3) (rCons (rVar 4) rNil))) rNil)))
    (sSeq (sIf (bOr (bVal (rBin gIsN (rCall m_is_square (rCons (rVar 5) rNil)) (rC (.bl true)))) (bVal (rBin gIsN (rCall m_is_square (rCons (rCall m__law_no_square (rCons (rVar 3) (rCons (rVar 5) rNil))) rNil)) (rC (.bl false))))) (sRet (rC (.bl false))) sNext)
    (sSeq (sAsg (rCall m__law_next (rCons (rVar 3) (rCons (rC (.int 5)) rNil))) (gName 7))
    (sSeq (sAsg (rAs gTuple (rCons (rKeep (rLc (rRange (rCons (rVar 4) rNil)) (gName 14) [14] bYes (rAs gTuple (rCons (rKeep (rLc (rRange (rCons (rVar 4) rNil)) (gName 15) [15] bYes (rAs gInt (rCons (rBin gEq (rVar 14) (rVar 15)) rNil)))) rNil)))) rNil)) (gName 8))
    (sSeq (sFor (rRange (rCons (rVar 7) rNil)) (gName 9) (sAsg (rCall m__law_product (rCons (rVar 8) (rCons (rVar 5) rNil))) (gName 8)))
    (sSeq (sAsg (rCall m__law_poly (rCons (rVar 5) rNil)) (gName 10))
    (sFor (rRange (rCons (rC (.int 2)) rNil)) (gName 9) (sSeq (sAsg (rCall m_square_power (rCons (rVar 5) (rCons (rVar 7) rNil))) (gName 11))
    (sSeq (sIf (bOr (bNot (bTru (rCall m__law_are_whole (rCons (rVar 11) rNil)))) (bOr (bVal (rBin gNe (rVar 11) (rVar 8))) (bVal (rBin gNe (rCall m_square_times (rCons (rVar 5) (rCons (rVar 6) rNil))) (rCall m__law_product (rCons (rVar 5) (rCons (rVar 6) rNil))))))) (sRet (rC (.bl false))) sNext)
    (sSeq (sAsg (rCall m_square_poly (rCons (rVar 5) rNil)) (gName 12))
    (sIf (bOr (bNot (bTru (rCall m__law_are_whole (rCons (rTup (rCons (rVar 12) rNil)) rNil)))) (bVal (rBin gNe (rVar 12) (rVar 10)))) (sRet (rC (.bl false))) sNext))))))))))))))
    (sSeq (sAsg (rBin gAdd (rC (.int 1001)) (rCall m__law_next (rCons (rVar 3) (rCons (rC (.int 300)) rNil)))) (gName 13))
    (sSeq (sIf (bVal (rBin gNe (rCall m_square_power (rCons (rTup (rCons (rTup (rCons (rC (.int 0)) (rCons (rC (.int 1)) rNil))) (rCons (rTup (rCons (rC (.int 1)) (rCons (rC (.int 0)) rNil))) rNil))) (rCons (rVar 13) rNil))) (rBin gIx (rTup (rCons (rTup (rCons (rTup (rCons (rC (.int 1)) (rCons (rC (.int 0)) rNil))) (rCons (rTup (rCons (rC (.int 0)) (rCons (rC (.int 1)) rNil))) rNil))) (rCons (rTup (rCons (rTup (rCons (rC (.int 0)) (rCons (rC (.int 1)) rNil))) (rCons (rTup (rCons (rC (.int 1)) (rCons (rC (.int 0)) rNil))) rNil))) rNil))) (rBin gMod (rVar 13) (rC (.int 2)))))) (sRet (rC (.bl false))) sNext)
    (sRet (rBin gIs (rCall m_is_square (rCons (rAs gTuple (rCons (rKeep (rLc (rRange (rCons (rC (.int 6)) rNil)) (gName 1) [1] bYes (rAs gTuple (rCons (rKeep (rBin gRepF (rLst (rCons (rVar 1) rNil)) (rC (.int 6)))) rNil)))) rNil)) rNil)) (rC (.bl true)))))))
def m_law : Mir := mDef 16 b_law
end DL
set_option Elab.async false
set_option linter.all false
set_option maxRecDepth 100000
set_option maxHeartbeats 0
set_option autoImplicit false
namespace DL
open PySem PySem.Spec PyProof.Rows L2
def top (i : Nat) : Stmt := PySem.Challenge.pw_roundless_k29_squares_and_polys.main.body.getD i (.Pass ⟨0, 0, 0, 0⟩)
abbrev st_is_whole : Stmt := top 1
abbrev st_is_square : Stmt := top 4
abbrev st_square_times : Stmt := top 7
abbrev st_square_one : Stmt := top 5
abbrev st_square_power : Stmt := top 8
abbrev st_square_sum : Stmt := top 6
abbrev st_square_poly : Stmt := top 9
abbrev st__law_mixed : Stmt := top 11
abbrev st__law_begun : Stmt := top 12
abbrev st__law_next : Stmt := top 13
abbrev st__law_around : Stmt := top 14
abbrev st__law_numbers : Stmt := top 15
abbrev st__law_product : Stmt := top 16
abbrev st__law_poly_sum : Stmt := top 17
abbrev st__law_poly_product : Stmt := top 18
abbrev st__law_determinant : Stmt := top 19
abbrev st__law_poly : Stmt := top 20
abbrev st__law_no_square : Stmt := top 21
abbrev st__law_are_whole : Stmt := top 22
abbrev st_law : Stmt := top 23
/-- what the text gives -/
structure Txt (K : Fg) (mg : Str → Option Value) : Prop where
  d_is_whole : Fd K mg "is_whole" st_is_whole ["thing"]
  d_is_square : Fd K mg "is_square" st_is_square ["thing"]
  d_square_times : Fd K mg "square_times" st_square_times ["one", "other"]
  d_square_one : Fd K mg "square_one" st_square_one ["side", "number"]
  d_square_power : Fd K mg "square_power" st_square_power ["square", "many"]
  d_square_sum : Fd K mg "square_sum" st_square_sum ["one", "other"]
  d_square_poly : Fd K mg "square_poly" st_square_poly ["square"]
  d__law_mixed : Fd K mg "_law_mixed" st__law_mixed ["_law_cell", "_law_k"]
  d__law_begun : Fd K mg "_law_begun" st__law_begun ["_law_script", "_law_k", "_law_many"]
  d__law_next : Fd K mg "_law_next" st__law_next ["_law_draw", "_law_below"]
  d__law_around : Fd K mg "_law_around" st__law_around ["_law_draw", "_law_most"]
  d__law_numbers : Fd K mg "_law_numbers" st__law_numbers ["_law_draw", "_law_side"]
  d__law_product : Fd K mg "_law_product" st__law_product ["_law_one", "_law_other"]
  d__law_poly_sum : Fd K mg "_law_poly_sum" st__law_poly_sum ["_law_one", "_law_other"]
  d__law_poly_product : Fd K mg "_law_poly_product" st__law_poly_product ["_law_one", "_law_other"]
  d__law_determinant : Fd K mg "_law_determinant" st__law_determinant ["_law_rows"]
  d__law_poly : Fd K mg "_law_poly" st__law_poly ["_law_square"]
  d__law_no_square : Fd K mg "_law_no_square" st__law_no_square ["_law_draw", "_law_square"]
  d__law_are_whole : Fd K mg "_law_are_whole" st__law_are_whole ["_law_square"]
  d_law : Fd K mg "law" st_law ["_law_script"]
  n_all : mg "all" = none
  n_bool : mg "bool" = none
  n_enumerate : mg "enumerate" = none
  n_int : mg "int" = none
  n_isinstance : mg "isinstance" = none
  n_len : mg "len" = none
  n_list : mg "list" = none
  n_max : mg "max" = none
  n_range : mg "range" = none
  n_sum : mg "sum" = none
  n_tuple : mg "tuple" = none
  n_zip : mg "zip" = none
  g_MOST_SIDE : ∃ t, mg "MOST_SIDE" = some (.int 6 t)
  dig : NoDig K
section
variable {P : Program} {w : World} {K : Fg} {mg : Str → Option Value} {base : Heap}
theorem sc_is_whole : FnScope ["thing"] ["thing"] (defScope st_is_whole) := ⟨rfl, rfl, rfl, by decide +kernel, rfl, by decide +kernel, by decide +kernel⟩
theorem ok_is_whole (T : Txt K mg) : Fn P w K mg base "is_whole" 1 1 m_is_whole := fn_mk (N := ["thing"]) (ps := ["thing"]) (r := b_is_whole) T.d_is_whole sc_is_whole fun f cdv A outer s H E en tk =>
  have nd := sc_is_whole.nd
  (psds_one (psd_ret (pd_and (pd_callB (hv := bv_isinstance) b_isi T.n_isinstance (pds_cons (pd_var 0) (pds_cons (pd_ty (hv := bv_int) T.n_int) pds_nil))) (pd_one (pd_not (pd_callB (hv := bv_isinstance) b_isi T.n_isinstance (pds_cons (pd_var 0) (pds_cons (pd_ty (hv := bv_bool) T.n_bool) pds_nil))))))))
theorem sc_is_square : FnScope ["thing", "row", "number"] ["thing"] (defScope st_is_square) := ⟨rfl, rfl, rfl, by decide +kernel, rfl, by decide +kernel, by decide +kernel⟩
theorem ok_is_square (T : Txt K mg) : Fn P w K mg base "is_square" 1 2 m_is_square := fn_mk (N := ["thing", "row", "number"]) (ps := ["thing"]) (r := b_is_square) T.d_is_square sc_is_square fun f cdv A outer s H E en tk =>
  have nd := sc_is_square.nd
  (psds_cons (psd_if (pb_w (pw_orD (pb_not (pb_tru (pd_callB (hv := bv_isinstance) b_isi T.n_isinstance (pds_cons (pd_var 0) (pds_cons (pd_ty (hv := bv_tuple) T.n_tuple) pds_nil))))) (pw_or1D (pb_not (pd_chain2 (g_leU en.u64) (g_leU en.u64) pd_int (pd_callB (hv := bv_len) b_len T.n_len (pds_cons (pd_var 0) pds_nil)) (pd_giE T.g_MOST_SIDE)).2)))) (psds_one (psd_ret pd_bl)) psds_nil)
    (psds_cons (psd_for en.hp rfl (pid_seq (pd_var 0)) (pgd_name 1 nd).pg (psds_one (psd_if (pb_w (pw_orD (pb_not (pb_tru (pd_callB (hv := bv_isinstance) b_isi T.n_isinstance (pds_cons (pd_var 1) (pds_cons (pd_ty (hv := bv_tuple) T.n_tuple) pds_nil))))) (pw_orD (pb_cmp (g_ne en.u64) (pd_callB (hv := bv_len) b_len T.n_len (pds_cons (pd_var 1) pds_nil)) (pd_callB (hv := bv_len) b_len T.n_len (pds_cons (pd_var 0) pds_nil)) (by rfl)) (pw_or1D (pb_not (pb_tru (pd_callB (hv := bv_all) (b_all rfl) T.n_all (pds_cons (pd_keep (pf_lc rfl nd (pid_seq (pd_var 1)) (own := [("number", 2)]) (blkOk_by (by kernel_rfl)) (plc_no (fun _ _ _ _ _ => (pgx_name 2 nd)) (fun _ _ _ _ _ => (pd_fn (ok_is_whole T) (en.room.mono (by decide)) en.gu takes0 (pds_cons (pd_var 2) pds_nil)))))) pds_nil)))))))) (psds_one (psd_ret pd_bl)) psds_nil)))
    (psds_one (psd_ret pd_bl))))
theorem sc_square_times : FnScope ["one", "other", "columns", "found", "row", "at", "column", "mine", "its"] ["one", "other"] (defScope st_square_times) := ⟨rfl, rfl, rfl, by decide +kernel, rfl, by decide +kernel, by decide +kernel⟩
theorem ok_square_times (T : Txt K mg) : Fn P w K mg base "square_times" 2 1 m_square_times := fn_mk (N := ["one", "other", "columns", "found", "row", "at", "column", "mine", "its"]) (ps := ["one", "other"]) (r := b_square_times) T.d_square_times sc_square_times fun f cdv A outer s H E en tk =>
  have nd := sc_square_times.nd
  (psds_cons (psd_setLc (i := 2) rfl nd (pid_range1 T.n_range (pds_cons (pd_callB (hv := bv_len) b_len T.n_len (pds_cons (pd_var 1) pds_nil)) pds_nil)) (own := [("at", 5)]) (blkOk_by (by kernel_rfl)) (plc_no (fun _ _ _ _ _ => (pgx_name 5 nd)) (fun _ _ _ _ _ => (pd_keep (pf_lc rfl nd (pid_seq (pd_var 1)) (own := [("row", 4)]) (blkOk_by (by kernel_rfl)) (plc_no (fun _ _ _ _ _ => (pgx_name 4 nd)) (fun _ _ _ _ _ => (pd_ix (pd_var 4) (pd_var 5)))))))) (sw_true rfl rfl rfl rfl)).1
    (psds_cons (psd_asg (pd_own (pf_lst pds_nil)) (pgd_name 3 nd).pg)
    (psds_cons (psd_for en.hp rfl (pid_seq (pd_var 0)) (pgd_name 4 nd).pg (psds_one (psd_expr (pd_meth m_append PySem.F.plainAttrs_list PySem.F.slot_list_append PySem.F.type_list_append (pd_var 3) (pds_cons (pd_callT (hv := bv_tuple) b_tuple T.n_tuple (pds_cons (pd_keep (pf_lc rfl nd (pid_seq (pd_var 2)) (own := [("column", 6)]) (blkOk_by (by kernel_rfl)) (plc_no (fun _ _ _ _ _ => (pgx_name 6 nd)) (fun _ _ _ _ _ => (pd_callB (hv := bv_sum) (b_sum rfl) T.n_sum (pds_cons (pd_keep (pf_lc rfl nd (pid_zipM T.n_zip (pds_cons (pd_var 4) (pds_cons (pd_var 6) pds_nil))) (own := [("mine", 7), ("its", 8)]) (blkOk_by (by kernel_rfl)) (plc_noT rfl (fun _ _ _ _ _ => (pgxs_cons (pgx_name 7 nd) (pgxs_cons (pgx_name 8 nd) pgxs_nil))) (fun _ _ _ _ _ => (pd_bin g_mul (pd_var 7) (pd_var 8)))))) pds_nil)))))) pds_nil)) pds_nil)))))
    (psds_one (psd_ret (pd_callT (hv := bv_tuple) b_tuple T.n_tuple (pds_cons (pd_var 3) pds_nil)))))))
theorem sc_square_one : FnScope ["side", "number", "place", "at"] ["side", "number"] (defScope st_square_one) := ⟨rfl, rfl, rfl, by decide +kernel, rfl, by decide +kernel, by decide +kernel⟩
theorem ok_square_one (T : Txt K mg) : Fn P w K mg base "square_one" 2 1 m_square_one := fn_mk (N := ["side", "number", "place", "at"]) (ps := ["side", "number"]) (r := b_square_one) T.d_square_one sc_square_one fun f cdv A outer s H E en tk =>
  have nd := sc_square_one.nd
  (psds_one (psd_ret (pd_callT (hv := bv_tuple) b_tuple T.n_tuple (pds_cons (pd_keep (pf_lc rfl nd (pid_range1 T.n_range (pds_cons (pd_var 0) pds_nil)) (own := [("place", 2)]) (blkOk_by (by kernel_rfl)) (plc_no (fun _ _ _ _ _ => (pgx_name 2 nd)) (fun _ _ _ _ _ => (pd_callT (hv := bv_tuple) b_tuple T.n_tuple (pds_cons (pd_keep (pf_lc rfl nd (pid_range1 T.n_range (pds_cons (pd_var 0) pds_nil)) (own := [("at", 3)]) (blkOk_by (by kernel_rfl)) (plc_no (fun _ _ _ _ _ => (pgx_name 3 nd)) (fun _ _ _ _ _ => (pd_bin g_mul (pd_var 1) (pd_callT (hv := bv_int) b_int T.n_int (pds_cons (pd_cmp (g_eq en.u64) (pd_var 3) (pd_var 2) (by rfl)) pds_nil))))))) pds_nil)))))) pds_nil))))
theorem sc_square_power : FnScope ["square", "many", "found", "turn"] ["square", "many"] (defScope st_square_power) := ⟨rfl, rfl, rfl, by decide +kernel, rfl, by decide +kernel, by decide +kernel⟩
theorem ok_square_power (T : Txt K mg) : Fn P w K mg base "square_power" 2 2 m_square_power := fn_mk (N := ["square", "many", "found", "turn"]) (ps := ["square", "many"]) (r := b_square_power) T.d_square_power sc_square_power fun f cdv A outer s H E en tk =>
  have nd := sc_square_power.nd
  (psds_cons (psd_asg (pd_fn (ok_square_one T) (en.room.mono (by decide)) en.gu tk (pds_cons (pd_callB (hv := bv_len) b_len T.n_len (pds_cons (pd_var 0) pds_nil)) (pds_cons pd_int pds_nil))) (pgd_name 2 nd).pg)
    (psds_cons (psd_for en.hp rfl (pid_range1 T.n_range (pds_cons (pd_var 1) pds_nil)) (pgd_name 3 nd).pg (psds_one (psd_asg (pd_fn (ok_square_times T) (en.room.mono (by decide)) en.gu tk (pds_cons (pd_var 2) (pds_cons (pd_var 0) pds_nil))) (pgd_name 2 nd).pg)))
    (psds_one (psd_ret (pd_var 2)))))
theorem sc_square_sum : FnScope ["one", "other", "row", "own", "mine", "its"] ["one", "other"] (defScope st_square_sum) := ⟨rfl, rfl, rfl, by decide +kernel, rfl, by decide +kernel, by decide +kernel⟩
theorem ok_square_sum (T : Txt K mg) : Fn P w K mg base "square_sum" 2 1 m_square_sum := fn_mk (N := ["one", "other", "row", "own", "mine", "its"]) (ps := ["one", "other"]) (r := b_square_sum) T.d_square_sum sc_square_sum fun f cdv A outer s H E en tk =>
  have nd := sc_square_sum.nd
  (psds_one (psd_ret (pd_callT (hv := bv_tuple) b_tuple T.n_tuple (pds_cons (pd_keep (pf_lc rfl nd (pid_zipA T.n_zip (pds_cons (pd_var 0) (pds_cons (pd_var 1) pds_nil))) (own := [("row", 2), ("own", 3)]) (blkOk_by (by kernel_rfl)) (plc_noT rfl (fun _ _ _ _ _ => (pgxs_cons (pgx_name 2 nd) (pgxs_cons (pgx_name 3 nd) pgxs_nil))) (fun _ _ _ _ _ => (pd_callT (hv := bv_tuple) b_tuple T.n_tuple (pds_cons (pd_keep (pf_lc rfl nd (pid_zipA T.n_zip (pds_cons (pd_var 2) (pds_cons (pd_var 3) pds_nil))) (own := [("mine", 4), ("its", 5)]) (blkOk_by (by kernel_rfl)) (plc_noT rfl (fun _ _ _ _ _ => (pgxs_cons (pgx_name 4 nd) (pgxs_cons (pgx_name 5 nd) pgxs_nil))) (fun _ _ _ _ _ => (pd_bin g_add (pd_var 4) (pd_var 5)))))) pds_nil)))))) pds_nil))))
theorem sc_square_poly : FnScope ["square", "side", "found", "own", "many", "number", "at"] ["square"] (defScope st_square_poly) := ⟨rfl, rfl, rfl, by decide +kernel, rfl, by decide +kernel, by decide +kernel⟩
theorem ok_square_poly (T : Txt K mg) : Fn P w K mg base "square_poly" 1 2 m_square_poly := fn_mk (N := ["square", "side", "found", "own", "many", "number", "at"]) (ps := ["square"]) (r := b_square_poly) T.d_square_poly sc_square_poly fun f cdv A outer s H E en tk =>
  have nd := sc_square_poly.nd
  (psds_cons (psd_asg (pd_callB (hv := bv_len) b_len T.n_len (pds_cons (pd_var 0) pds_nil)) (pgd_name 1 nd).pg)
    (psds_cons (psd_asg (pd_own (pf_lst (pds_cons pd_int pds_nil))) (pgd_name 2 nd).pg)
    (psds_cons (psd_asg (pd_fn (ok_square_one T) (en.room.mono (by decide)) en.gu tk (pds_cons (pd_var 1) (pds_cons pd_int pds_nil))) (pgd_name 3 nd).pg)
    (psds_cons (psd_for en.hp rfl (pid_range2 T.n_range (pds_cons pd_int (pds_cons (pd_bin g_add (pd_var 1) pd_int) pds_nil))) (pgd_name 4 nd).pg (psds_cons (psd_asg (pd_fn (ok_square_times T) (en.room.mono (by decide)) en.gu tk (pds_cons (pd_var 0) (pds_cons (pd_var 3) pds_nil))) (pgd_name 3 nd).pg)
    (psds_cons (psd_asg (pd_bin g_sub pd_int (pd_bin g_div (pd_callB (hv := bv_sum) (b_sum rfl) T.n_sum (pds_cons (pd_keep (pf_lc rfl nd (pid_range1 T.n_range (pds_cons (pd_var 1) pds_nil)) (own := [("at", 6)]) (blkOk_by (by kernel_rfl)) (plc_no (fun _ _ _ _ _ => (pgx_name 6 nd)) (fun _ _ _ _ _ => (pd_ix (pd_ix (pd_var 3) (pd_var 6)) (pd_var 6)))))) pds_nil)) (pd_var 4))) (pgd_name 5 nd).pg)
    (psds_cons (psd_expr (pd_meth m_insert PySem.F.plainAttrs_list PySem.F.slot_list_insert PySem.F.type_list_insert (pd_var 2) (pds_cons pd_int (pds_cons (pd_var 5) pds_nil))))
    (psds_one (psd_asg (pd_fn (ok_square_sum T) (en.room.mono (by decide)) en.gu tk (pds_cons (pd_var 3) (pds_cons (pd_fn (ok_square_one T) (en.room.mono (by decide)) en.gu tk (pds_cons (pd_var 1) (pds_cons (pd_var 5) pds_nil))) pds_nil))) (pgd_name 3 nd).pg))))))
    (psds_one (psd_ret (pd_callT (hv := bv_tuple) b_tuple T.n_tuple (pds_cons (pd_var 2) pds_nil))))))))
theorem sc__law_mixed : FnScope ["_law_cell", "_law_k", "_law_number"] ["_law_cell", "_law_k"] (defScope st__law_mixed) := ⟨rfl, rfl, rfl, by decide +kernel, rfl, by decide +kernel, by decide +kernel⟩
theorem ok__law_mixed (T : Txt K mg) : Fn P w K mg base "_law_mixed" 2 1 m__law_mixed := fn_mk (N := ["_law_cell", "_law_k", "_law_number"]) (ps := ["_law_cell", "_law_k"]) (r := b__law_mixed) T.d__law_mixed sc__law_mixed fun f cdv A outer s H E en tk =>
  have nd := sc__law_mixed.nd
  (psds_cons (psd_asg (pd_bin g_mod (pd_bin g_mul (pd_bin g_add (pd_bin g_add (pd_bin g_mod (pd_var 0) pd_int) (pd_bin g_mul pd_int (pd_var 1))) pd_int) pd_int) pd_int) (pgd_name 2 nd).pg)
    (psds_one (psd_ret (pd_bin g_div (pd_bin g_mod (pd_bin g_mul (pd_var 2) (pd_var 2)) pd_int) pd_int))))
theorem sc__law_begun : FnScope ["_law_script", "_law_k", "_law_many", "_law_own", "_law_great"] ["_law_script", "_law_k", "_law_many"] (defScope st__law_begun) := ⟨rfl, rfl, rfl, by decide +kernel, rfl, by decide +kernel, by decide +kernel⟩
theorem ok__law_begun (T : Txt K mg) : Fn P w K mg base "_law_begun" 3 2 m__law_begun := fn_mkK (N := ["_law_script", "_law_k", "_law_many", "_law_own", "_law_great"]) (ps := ["_law_script", "_law_k", "_law_many"]) (r := b__law_begun) T.d__law_begun sc__law_begun fun f cdv A outer s H E en tk =>
  have nd := sc__law_begun.nd
  (psds_cons (psd_asg (pd_or (pd_step (pd_var 0) (pod_some (pd_var 1)) pod_none (pod_some (pd_var 2))) (pd_one (pd_keep (pf_lst (pds_cons (pd_var 1) pds_nil))))) (pgd_name 3 nd).pg)
    (psds_cons (psd_asg (pd_callB (hv := bv_max) (b_max rfl) T.n_max (pds_cons (pd_var 3) pds_nil)) (pgd_name 4 nd).pg)
    (psds_one (psd_ret (pd_own (pf_disp (ppd_cons pd_str (pd_bin g_mul (pd_var 4) (pd_callT (hv := bv_int) b_int T.n_int (pds_cons (pd_cmp (g_geU en.u64) (pd_var 4) (pd_bin g_pow pd_int pd_int) (by rfl)) pds_nil))) (ppd_cons pd_str (pd_fn (ok__law_mixed T) (en.room.mono (by decide)) en.gu tk (pds_cons (pd_fn (ok__law_mixed T) (en.room.mono (by decide)) en.gu tk (pds_cons (pd_callB (hv := bv_sum) (b_sum rfl) T.n_sum (pds_cons (pd_var 3) pds_nil)) (pds_cons (pd_var 1) pds_nil))) (pds_cons (pd_callB (hv := bv_len) b_len T.n_len (pds_cons (pd_var 3) pds_nil)) pds_nil))) ppd_nil))))))))
theorem sc__law_next : FnScope ["_law_draw", "_law_below", "_law_found"] ["_law_draw", "_law_below"] (defScope st__law_next) := ⟨rfl, rfl, rfl, by decide +kernel, rfl, by decide +kernel, by decide +kernel⟩
theorem ok__law_next (T : Txt K mg) : Fn P w K mg base "_law_next" 2 2 m__law_next := fn_mk (N := ["_law_draw", "_law_below", "_law_found"]) (ps := ["_law_draw", "_law_below"]) (r := b__law_next) T.d__law_next sc__law_next fun f cdv A outer s H E en tk =>
  have nd := sc__law_next.nd
  (psds_cons (psd_if (pb_cmp (g_gtU en.u64) (pd_uget en.u10 (pd_var 0) pd_str) pd_int (by rfl)) (psds_cons (psd_asg (pd_bin g_mod (pd_uget en.u10 (pd_var 0) pd_str) (pd_var 1)) (pgd_name 2 nd).pg)
    (psds_cons (psd_putU en.u10 (pd_var 0) pd_str (pd_bin g_div (pd_uget en.u10 (pd_var 0) pd_str) (pd_var 1)))
    (psds_one (psd_ret (pd_var 2))))) psds_nil)
    (psds_cons (psd_putU en.u10 (pd_var 0) pd_str (pd_fn (ok__law_mixed T) (en.room.mono (by decide)) en.gu tk (pds_cons (pd_fn (ok__law_mixed T) (en.room.mono (by decide)) en.gu tk (pds_cons (pd_uget en.u10 (pd_var 0) pd_str) (pds_cons (pd_var 1) pds_nil))) (pds_cons pd_int pds_nil))))
    (psds_one (psd_ret (pd_bin g_mod (pd_uget en.u10 (pd_var 0) pd_str) (pd_var 1))))))
theorem sc__law_around : FnScope ["_law_draw", "_law_most", "_law_found", "_law_size"] ["_law_draw", "_law_most"] (defScope st__law_around) := ⟨rfl, rfl, rfl, by decide +kernel, rfl, by decide +kernel, by decide +kernel⟩
theorem ok__law_around (T : Txt K mg) : Fn P w K mg base "_law_around" 2 3 m__law_around := fn_mk (N := ["_law_draw", "_law_most", "_law_found", "_law_size"]) (ps := ["_law_draw", "_law_most"]) (r := b__law_around) T.d__law_around sc__law_around fun f cdv A outer s H E en tk =>
  have nd := sc__law_around.nd
  (psds_cons (psd_if (pb_cmp (g_ltU en.u64) (pd_var 1) pd_int (by rfl)) (psds_one (psd_ret (pd_bin g_sub (pd_fn (ok__law_next T) (en.room.mono (by decide)) en.gu tk (pds_cons (pd_var 0) (pds_cons (pd_bin g_add (pd_bin g_mul pd_int (pd_var 1)) pd_int) pds_nil))) (pd_var 1)))) psds_nil)
    (psds_cons (psd_asg (pd_tup (pds_cons pd_int (pds_cons pd_int pds_nil))) (pgn_tup rfl (pgds_cons (pgd_name 2 nd) (pgds_cons (pgd_name 3 nd) pgds_nil))).pg)
    (psds_cons (psd_while fuel__law_around_0 en.hp (pb_cmp (g_ltU en.u64) (pd_var 3) (pd_bin g_add (pd_bin g_mul pd_int (pd_var 1)) pd_int) (by rfl)) (psds_one (psd_par rfl nd (pds_cons (pd_bin g_add (pd_bin g_mul (pd_var 2) pd_int) (pd_fn (ok__law_next T) (en.room.mono (by decide)) en.gu tk (pds_cons (pd_var 0) (pds_cons pd_int pds_nil)))) (pds_cons (pd_bin g_mul (pd_var 3) pd_int) pds_nil)))))
    (psds_one (psd_ret (pd_bin g_sub (pd_bin g_mod (pd_var 2) (pd_bin g_add (pd_bin g_mul pd_int (pd_var 1)) pd_int)) (pd_var 1)))))))
theorem sc__law_numbers : FnScope ["_law_draw", "_law_side", "_law_most", "_law_at", "_law_k"] ["_law_draw", "_law_side"] (defScope st__law_numbers) := ⟨rfl, rfl, rfl, by decide +kernel, rfl, by decide +kernel, by decide +kernel⟩
theorem ok__law_numbers (T : Txt K mg) : Fn P w K mg base "_law_numbers" 2 4 m__law_numbers := fn_mk (N := ["_law_draw", "_law_side", "_law_most", "_law_at", "_law_k"]) (ps := ["_law_draw", "_law_side"]) (r := b__law_numbers) T.d__law_numbers sc__law_numbers fun f cdv A outer s H E en tk =>
  have nd := sc__law_numbers.nd
  (psds_cons (psd_asg (pd_ix (pd_keep (pf_lst (pds_cons pd_int (pds_cons pd_int (pds_cons pd_int (pds_cons pd_int (pds_cons (pd_bin g_pow pd_int pd_int) pds_nil))))))) (pd_fn (ok__law_next T) (en.room.mono (by decide)) en.gu tk (pds_cons (pd_var 0) (pds_cons pd_int pds_nil)))) (pgd_name 2 nd).pg)
    (psds_one (psd_ret (pd_callT (hv := bv_tuple) b_tuple T.n_tuple (pds_cons (pd_keep (pf_lc rfl nd (pid_range1 T.n_range (pds_cons (pd_var 1) pds_nil)) (own := [("_law_at", 3)]) (blkOk_by (by kernel_rfl)) (plc_no (fun _ _ _ _ _ => (pgx_name 3 nd)) (fun _ _ _ _ _ => (pd_callT (hv := bv_tuple) b_tuple T.n_tuple (pds_cons (pd_keep (pf_lc rfl nd (pid_range1 T.n_range (pds_cons (pd_var 1) pds_nil)) (own := [("_law_k", 4)]) (blkOk_by (by kernel_rfl)) (plc_no (fun _ _ _ _ _ => (pgx_name 4 nd)) (fun _ _ _ _ _ => (pd_fn (ok__law_around T) (en.room.mono (by decide)) en.gu takes0 (pds_cons (pd_var 0) (pds_cons (pd_var 2) pds_nil))))))) pds_nil)))))) pds_nil)))))
theorem sc__law_product : FnScope ["_law_one", "_law_other", "_law_side", "_law_found", "_law_row", "_law_at", "_law_k"] ["_law_one", "_law_other"] (defScope st__law_product) := ⟨rfl, rfl, rfl, by decide +kernel, rfl, by decide +kernel, by decide +kernel⟩
theorem ok__law_product (T : Txt K mg) : Fn P w K mg base "_law_product" 2 1 m__law_product := fn_mk (N := ["_law_one", "_law_other", "_law_side", "_law_found", "_law_row", "_law_at", "_law_k"]) (ps := ["_law_one", "_law_other"]) (r := b__law_product) T.d__law_product sc__law_product fun f cdv A outer s H E en tk =>
  have nd := sc__law_product.nd
  (psds_cons (psd_asg (pd_keep (pf_listRange rfl T.n_list T.n_range (pd_callB (hv := bv_len) b_len T.n_len (pds_cons (pd_var 0) pds_nil)))) (pgd_name 2 nd).pg)
    (psds_cons (psd_asg (pd_own (pf_lst pds_nil)) (pgd_name 3 nd).pg)
    (psds_cons (psd_for en.hp rfl (pid_seq (pd_var 0)) (pgd_name 4 nd).pg (psds_one (psd_expr (pd_meth m_append PySem.F.plainAttrs_list PySem.F.slot_list_append PySem.F.type_list_append (pd_var 3) (pds_cons (pd_callT (hv := bv_tuple) b_tuple T.n_tuple (pds_cons (pd_keep (pf_lc rfl nd (pid_seq (pd_var 2)) (own := [("_law_at", 5)]) (blkOk_by (by kernel_rfl)) (plc_no (fun _ _ _ _ _ => (pgx_name 5 nd)) (fun _ _ _ _ _ => (pd_callB (hv := bv_sum) (b_sum rfl) T.n_sum (pds_cons (pd_keep (pf_lc rfl nd (pid_seq (pd_var 2)) (own := [("_law_k", 6)]) (blkOk_by (by kernel_rfl)) (plc_no (fun _ _ _ _ _ => (pgx_name 6 nd)) (fun _ _ _ _ _ => (pd_bin g_mul (pd_ix (pd_var 4) (pd_var 6)) (pd_ix (pd_ix (pd_var 1) (pd_var 6)) (pd_var 5))))))) pds_nil)))))) pds_nil)) pds_nil)))))
    (psds_one (psd_ret (pd_callT (hv := bv_tuple) b_tuple T.n_tuple (pds_cons (pd_var 3) pds_nil)))))))
theorem sc__law_poly_sum : FnScope ["_law_one", "_law_other", "_law_size", "_law_mine", "_law_its"] ["_law_one", "_law_other"] (defScope st__law_poly_sum) := ⟨rfl, rfl, rfl, by decide +kernel, rfl, by decide +kernel, by decide +kernel⟩
theorem ok__law_poly_sum (T : Txt K mg) : Fn P w K mg base "_law_poly_sum" 2 1 m__law_poly_sum := fn_mk (N := ["_law_one", "_law_other", "_law_size", "_law_mine", "_law_its"]) (ps := ["_law_one", "_law_other"]) (r := b__law_poly_sum) T.d__law_poly_sum sc__law_poly_sum fun f cdv A outer s H E en tk =>
  have nd := sc__law_poly_sum.nd
  (psds_cons (psd_asg (pd_callB (hv := bv_max) (b_max rfl) T.n_max (pds_cons (pd_callB (hv := bv_len) b_len T.n_len (pds_cons (pd_var 0) pds_nil)) (pds_cons (pd_callB (hv := bv_len) b_len T.n_len (pds_cons (pd_var 1) pds_nil)) pds_nil))) (pgd_name 2 nd).pg)
    (psds_cons (psd_asg (pd_keep (pf_cat (pd_var 0) (pd_keep (pf_rep (pf_lst (pds_cons pd_int pds_nil)) (pd_bin g_sub (pd_var 2) (pd_callB (hv := bv_len) b_len T.n_len (pds_cons (pd_var 0) pds_nil))))))) (pgd_name 0 nd).pg)
    (psds_cons (psd_asg (pd_keep (pf_cat (pd_var 1) (pd_keep (pf_rep (pf_lst (pds_cons pd_int pds_nil)) (pd_bin g_sub (pd_var 2) (pd_callB (hv := bv_len) b_len T.n_len (pds_cons (pd_var 1) pds_nil))))))) (pgd_name 1 nd).pg)
    (psds_one (psd_ret (pd_keep (pf_lc rfl nd (pid_zipA T.n_zip (pds_cons (pd_var 0) (pds_cons (pd_var 1) pds_nil))) (own := [("_law_mine", 3), ("_law_its", 4)]) (blkOk_by (by kernel_rfl)) (plc_noT rfl (fun _ _ _ _ _ => (pgxs_cons (pgx_name 3 nd) (pgxs_cons (pgx_name 4 nd) pgxs_nil))) (fun _ _ _ _ _ => (pd_bin g_add (pd_var 3) (pd_var 4)))))))))))
theorem sc__law_poly_product : FnScope ["_law_one", "_law_other", "_law_found", "_law_k", "_law_mine", "_law_at", "_law_its"] ["_law_one", "_law_other"] (defScope st__law_poly_product) := ⟨rfl, rfl, rfl, by decide +kernel, rfl, by decide +kernel, by decide +kernel⟩
theorem ok__law_poly_product (T : Txt K mg) : Fn P w K mg base "_law_poly_product" 2 1 m__law_poly_product := fn_mk (N := ["_law_one", "_law_other", "_law_found", "_law_k", "_law_mine", "_law_at", "_law_its"]) (ps := ["_law_one", "_law_other"]) (r := b__law_poly_product) T.d__law_poly_product sc__law_poly_product fun f cdv A outer s H E en tk =>
  have nd := sc__law_poly_product.nd
  (psds_cons (psd_asg (pd_own (pf_rep (pf_lst (pds_cons pd_int pds_nil)) (pd_bin g_sub (pd_bin g_add (pd_callB (hv := bv_len) b_len T.n_len (pds_cons (pd_var 0) pds_nil)) (pd_callB (hv := bv_len) b_len T.n_len (pds_cons (pd_var 1) pds_nil))) pd_int))) (pgd_name 2 nd).pg)
    (psds_cons (psd_for en.hp rfl (pid_enum T.n_enumerate (pds_cons (pd_var 0) pds_nil)) (pgn_tup rfl (pgds_cons (pgd_name 3 nd) (pgds_cons (pgd_name 4 nd) pgds_nil))).pg (psds_one (psd_for en.hp rfl (pid_enum T.n_enumerate (pds_cons (pd_var 1) pds_nil)) (pgn_tup rfl (pgds_cons (pgd_name 5 nd) (pgds_cons (pgd_name 6 nd) pgds_nil))).pg (psds_one (psd_setL (pd_var 2) (pd_bin g_add (pd_var 3) (pd_var 5)) (pd_bin g_add (pd_ix (pd_var 2) (pd_bin g_add (pd_var 3) (pd_var 5))) (pd_bin g_mul (pd_var 4) (pd_var 6))))))))
    (psds_one (psd_ret (pd_var 2)))))
theorem sc__law_determinant : FnScope ["_law_rows", "_law_found", "_law_at", "_law_own", "_law_lesser", "_law_sign", "_law_row", "_law_number"] ["_law_rows"] (defScope st__law_determinant) := ⟨rfl, rfl, rfl, by decide +kernel, rfl, by decide +kernel, by decide +kernel⟩
theorem okr__law_determinant (T : Txt K mg) : ∀ n : Nat, Fn P w K mg base "_law_determinant" 1 (2 + n) (mr__law_determinant n)
  | 0 => fn_stuck T.d__law_determinant
  | n + 1 => by
    have hrec := okr__law_determinant T n
    exact fn_mk (N := ["_law_rows", "_law_found", "_law_at", "_law_own", "_law_lesser", "_law_sign", "_law_row", "_law_number"]) (ps := ["_law_rows"]) (r := b__law_determinant (mr__law_determinant n)) T.d__law_determinant sc__law_determinant fun f cdv A outer s H E en tk => by
      have nd := sc__law_determinant.nd
      exact (psds_cons (psd_if (pb_cmp (g_eq en.u64) (pd_var 0) (pd_keep (pf_lst pds_nil)) (by rfl)) (psds_one (psd_ret (pd_keep (pf_lst (pds_cons pd_int pds_nil))))) psds_nil)
    (psds_cons (psd_asg (pd_keep (pf_lst (pds_cons pd_int pds_nil))) (pgd_name 1 nd).pg)
    (psds_cons (psd_for en.hp rfl (pid_enum T.n_enumerate (pds_cons (pd_ix (pd_var 0) pd_int) pds_nil)) (pgn_tup rfl (pgds_cons (pgd_name 2 nd) (pgds_cons (pgd_name 3 nd) pgds_nil))).pg (psds_cons (psd_asg (pd_fn hrec (en.room.mono (Nat.le_refl _)) en.gu tk (pds_cons (pd_keep (pf_lc rfl nd (pid_seq (pd_cut (pd_var 0) (pod_some pd_int) pod_none)) (own := [("_law_row", 6)]) (blkOk_by (by kernel_rfl)) (plc_no (fun _ _ _ _ _ => (pgx_name 6 nd)) (fun _ _ _ _ _ => (pd_keep (pf_cat (pd_cut (pd_var 6) pod_none (pod_some (pd_var 2))) (pd_cut (pd_var 6) (pod_some (pd_bin g_add (pd_var 2) pd_int)) pod_none))))))) pds_nil)) (pgd_name 4 nd).pg)
    (psds_cons (psd_setLc (i := 5) rfl nd (pid_seq (pd_var 3)) (own := [("_law_number", 7)]) (blkOk_by (by kernel_rfl)) (plc_no (fun _ _ _ _ _ => (pgx_name 7 nd)) (fun _ _ _ _ _ => (pd_if (pb_cmp (g_eq en.u64) (pd_bin g_mod (pd_var 2) pd_int) pd_int (by rfl)) (pd_bin g_sub pd_int (pd_var 7)) (pd_var 7)))) (sw_true rfl rfl rfl rfl)).1
    (psds_one (psd_asg (pd_fn (ok__law_poly_sum T) (en.room.mono (by first | decide | exact Nat.le_trans (by decide) (Nat.le_add_right _ n))) en.gu tk (pds_cons (pd_var 1) (pds_cons (pd_fn (ok__law_poly_product T) (en.room.mono (by first | decide | exact Nat.le_trans (by decide) (Nat.le_add_right _ n))) en.gu tk (pds_cons (pd_var 5) (pds_cons (pd_var 4) pds_nil))) pds_nil))) (pgd_name 1 nd).pg)))))
    (psds_one (psd_ret (pd_var 1))))))
theorem ok__law_determinant (T : Txt K mg) : Fn P w K mg base "_law_determinant" 1 10 m__law_determinant := okr__law_determinant T 8
theorem sc__law_poly : FnScope ["_law_square", "_law_rows", "_law_k", "_law_row", "_law_at", "_law_number"] ["_law_square"] (defScope st__law_poly) := ⟨rfl, rfl, rfl, by decide +kernel, rfl, by decide +kernel, by decide +kernel⟩
theorem ok__law_poly (T : Txt K mg) : Fn P w K mg base "_law_poly" 1 11 m__law_poly := fn_mk (N := ["_law_square", "_law_rows", "_law_k", "_law_row", "_law_at", "_law_number"]) (ps := ["_law_square"]) (r := b__law_poly) T.d__law_poly sc__law_poly fun f cdv A outer s H E en tk =>
  have nd := sc__law_poly.nd
  (psds_cons (psd_asg (pd_own (pf_lst pds_nil)) (pgd_name 1 nd).pg)
    (psds_cons (psd_for en.hp rfl (pid_enumT T.n_enumerate (pds_cons (pd_var 0) pds_nil)) (pgn_tup rfl (pgds_cons (pgd_name 2 nd) (pgds_cons (pgd_name 3 nd) pgds_nil))).pg (psds_one (psd_expr (pd_meth m_append PySem.F.plainAttrs_list PySem.F.slot_list_append PySem.F.type_list_append (pd_var 1) (pds_cons (pd_keep (pf_lc rfl nd (pid_enumT T.n_enumerate (pds_cons (pd_var 3) pds_nil)) (own := [("_law_at", 4), ("_law_number", 5)]) (blkOk_by (by kernel_rfl)) (plc_noT rfl (fun _ _ _ _ _ => (pgxs_cons (pgx_name 4 nd) (pgxs_cons (pgx_name 5 nd) pgxs_nil))) (fun _ _ _ _ _ => (pd_if (pb_cmp (g_eq en.u64) (pd_var 2) (pd_var 4) (by rfl)) (pd_keep (pf_lst (pds_cons (pd_bin g_sub pd_int (pd_var 5)) (pds_cons pd_int pds_nil)))) (pd_keep (pf_lst (pds_cons (pd_bin g_sub pd_int (pd_var 5)) pds_nil)))))))) pds_nil)))))
    (psds_freeze (i := 1) (psds_one (psd_ret (pd_callT (hv := bv_tuple) b_tuple T.n_tuple (pds_cons (pd_cut (pd_fn (ok__law_determinant T) (en.room.mono (by decide)) en.gu tk (pds_cons (pd_var 1) pds_nil)) pod_none (pod_some (pd_bin g_add (pd_callB (hv := bv_len) b_len T.n_len (pds_cons (pd_var 0) pds_nil)) pd_int))) pds_nil)))))))
theorem sc__law_no_square : FnScope ["_law_draw", "_law_square", "_law_row", "_law_some", "_law_one", "_law_k"] ["_law_draw", "_law_square"] (defScope st__law_no_square) := ⟨rfl, rfl, rfl, by decide +kernel, rfl, by decide +kernel, by decide +kernel⟩
theorem ok__law_no_square (T : Txt K mg) : Fn P w K mg base "_law_no_square" 2 3 m__law_no_square := fn_mk (N := ["_law_draw", "_law_square", "_law_row", "_law_some", "_law_one", "_law_k"]) (ps := ["_law_draw", "_law_square"]) (r := b__law_no_square) T.d__law_no_square sc__law_no_square fun f cdv A outer s H E en tk =>
  have nd := sc__law_no_square.nd
  (psds_cons (psd_asg (pd_ix (pd_var 1) pd_int) (pgd_name 2 nd).pg)
    (psds_cons (psd_asg (pd_own (pf_lst (pds_cons pd_non (pds_cons pd_int (pds_cons (pd_tup pds_nil) (pds_cons pd_str (pds_cons (pd_keep (pf_lc rfl nd (pid_seq (pd_var 1)) (own := [("_law_one", 4)]) (blkOk_by (by kernel_rfl)) (plc_no (fun _ _ _ _ _ => (pgx_name 4 nd)) (fun _ _ _ _ _ => (pd_keep (pf_list rfl T.n_list (pds_cons (pd_var 4) pds_nil))))))) (pds_cons (pd_keep (pf_list rfl T.n_list (pds_cons (pd_var 1) pds_nil))) (pds_cons (pd_own pf_dnew) (pds_cons (pd_bin g_add (pd_var 1) (pd_tup (pds_cons (pd_var 2) pds_nil))) (pds_cons (pd_bin g_add (pd_cut (pd_var 1) (pod_some pd_int) pod_none) (pd_tup (pds_cons (pd_tup pds_nil) pds_nil))) pds_nil))))))))))) (pgd_name 3 nd).pg)
    (psds_cons (psd_asg (pd_own (pf_cat (pd_var 3) (pd_keep (pf_lst (pds_cons (pd_callT (hv := bv_tuple) b_tuple T.n_tuple (pds_cons (pd_keep (pf_lc rfl nd (pid_seq (pd_var 1)) (own := [("_law_one", 4)]) (blkOk_by (by kernel_rfl)) (plc_no (fun _ _ _ _ _ => (pgx_name 4 nd)) (fun _ _ _ _ _ => (pd_bin g_add (pd_var 4) (pd_tup (pds_cons pd_int pds_nil))))))) pds_nil)) (pds_cons (pd_bin g_add (pd_cut (pd_var 1) pod_none (pod_some (pd_neg pd_int))) (pd_tup (pds_cons (pd_bin g_add (pd_cut (pd_var 2) pod_none (pod_some (pd_neg pd_int))) (pd_tup (pds_cons pd_bl pds_nil))) pds_nil))) (pds_cons (pd_var 2) (pds_cons (pd_tup (pds_cons (pd_tup (pds_cons pd_int (pds_cons pd_int pds_nil))) pds_nil)) (pds_cons pd_bl pds_nil))))))))) (pgd_name 3 nd).pg)
    (psds_cons (psd_asg (pd_own (pf_cat (pd_var 3) (pd_keep (pf_lst (pds_cons (pd_bin g_add (pd_cut (pd_var 1) pod_none (pod_some (pd_neg pd_int))) (pd_tup (pds_cons (pd_keep (pf_list rfl T.n_list (pds_cons (pd_var 2) pds_nil))) pds_nil))) (pds_cons (pd_bin g_add (pd_cut (pd_var 1) pod_none (pod_some (pd_neg pd_int))) (pd_tup (pds_cons (pd_bin g_add (pd_cut (pd_var 2) pod_none (pod_some (pd_neg pd_int))) (pd_tup (pds_cons pd_str pds_nil))) pds_nil))) (pds_cons (pd_bin g_add (pd_cut (pd_var 1) pod_none (pod_some (pd_neg pd_int))) (pd_tup (pds_cons (pd_bin g_add (pd_cut (pd_var 2) pod_none (pod_some (pd_neg pd_int))) (pd_tup (pds_cons pd_non pds_nil))) pds_nil))) pds_nil))))))) (pgd_name 3 nd).pg)
    (psds_cons (psd_expr (pd_meth m_append PySem.F.plainAttrs_list PySem.F.slot_list_append PySem.F.type_list_append (pd_var 3) (pds_cons (pd_callT (hv := bv_tuple) b_tuple T.n_tuple (pds_cons (pd_keep (pf_lc rfl nd (pid_range1 T.n_range (pds_cons pd_int pds_nil)) (own := [("_law_k", 5)]) (blkOk_by (by kernel_rfl)) (plc_no (fun _ _ _ _ _ => (pgx_name 5 nd)) (fun _ _ _ _ _ => (pd_callT (hv := bv_tuple) b_tuple T.n_tuple (pds_cons (pd_keep (pf_rep (pf_lst (pds_cons pd_int pds_nil)) pd_int)) pds_nil)))))) pds_nil)) pds_nil)))
    (psds_one (psd_ret (pd_ix (pd_var 3) (pd_fn (ok__law_next T) (en.room.mono (by decide)) en.gu tk (pds_cons (pd_var 0) (pds_cons (pd_callB (hv := bv_len) b_len T.n_len (pds_cons (pd_var 3) pds_nil)) pds_nil)))))))))))
theorem sc__law_are_whole : FnScope ["_law_square", "_law_row", "_law_one"] ["_law_square"] (defScope st__law_are_whole) := ⟨rfl, rfl, rfl, by decide +kernel, rfl, by decide +kernel, by decide +kernel⟩
theorem ok__law_are_whole (T : Txt K mg) : Fn P w K mg base "_law_are_whole" 1 1 m__law_are_whole := fn_mk (N := ["_law_square", "_law_row", "_law_one"]) (ps := ["_law_square"]) (r := b__law_are_whole) T.d__law_are_whole sc__law_are_whole fun f cdv A outer s H E en tk =>
  have nd := sc__law_are_whole.nd
  (psds_cons (psd_for en.hp rfl (pid_seq (pd_var 0)) (pgd_name 1 nd).pg (psds_one (psd_if (pb_w (pw_orD (pb_not (pb_tru (pd_callB (hv := bv_isinstance) b_isi T.n_isinstance (pds_cons (pd_var 1) (pds_cons (pd_ty (hv := bv_tuple) T.n_tuple) pds_nil))))) (pw_or1D (pb_not (pb_tru (pd_callB (hv := bv_all) (b_all rfl) T.n_all (pds_cons (pd_keep (pf_lc rfl nd (pid_seq (pd_var 1)) (own := [("_law_one", 2)]) (blkOk_by (by kernel_rfl)) (plc_no (fun _ _ _ _ _ => (pgx_name 2 nd)) (fun _ _ _ _ _ => (pd_and (pd_callB (hv := bv_isinstance) b_isi T.n_isinstance (pds_cons (pd_var 2) (pds_cons (pd_ty (hv := bv_int) T.n_int) pds_nil))) (pd_one (pd_not (pd_callB (hv := bv_isinstance) b_isi T.n_isinstance (pds_cons (pd_var 2) (pds_cons (pd_ty (hv := bv_bool) T.n_bool) pds_nil)))))))))) pds_nil))))))) (psds_one (psd_ret pd_bl)) psds_nil)))
    (psds_one (psd_ret (pd_callB (hv := bv_isinstance) b_isi T.n_isinstance (pds_cons (pd_var 0) (pds_cons (pd_ty (hv := bv_tuple) T.n_tuple) pds_nil))))))
theorem sc_law : FnScope ["_law_script", "_law_k", "_law_cell", "_law_draw", "_law_side", "_law_one", "_law_other", "_law_many", "_law_due", "_law_turn", "_law_poly_here", "_law_found", "_law_told", "_law_far", "_law_row", "_law_at"] ["_law_script"] (defScope st_law) := ⟨rfl, rfl, rfl, by decide +kernel, rfl, by decide +kernel, by decide +kernel⟩
theorem ok_law (T : Txt K mg) : Fn P w K mg base "law" 1 12 m_law := fn_mk (N := ["_law_script", "_law_k", "_law_cell", "_law_draw", "_law_side", "_law_one", "_law_other", "_law_many", "_law_due", "_law_turn", "_law_poly_here", "_law_found", "_law_told", "_law_far", "_law_row", "_law_at"]) (ps := ["_law_script"]) (r := b_law) T.d_law sc_law fun f cdv A outer s H E en tk =>
  have nd := sc_law.nd
  (psds_cons (psd_for en.hp rfl (pid_enum T.n_enumerate (pds_cons (pd_cut (pd_or (pd_var 0) (pd_one (pd_keep (pf_lst (pds_cons pd_int pds_nil))))) pod_none (pod_some pd_int)) pds_nil)) (pgn_tup rfl (pgds_cons (pgd_name 1 nd) (pgds_cons (pgd_name 2 nd) pgds_nil))).pg (psds_cons (psd_asg (pd_fn (ok__law_begun T) (en.room.mono (by decide)) en.gu tk (pds_cons (pd_keep (pf_cat (pd_keep (pf_lst (pds_cons (pd_var 2) pds_nil))) (pd_var 0))) (pds_cons pd_int (pds_cons (pd_bin g_add pd_int (pd_var 1)) pds_nil)))) (pgd_name 3 nd).pg)
    (psds_cons (psd_asg (pd_ix (pd_keep (pf_lst (pds_cons pd_int (pds_cons pd_int (pds_cons pd_int (pds_cons pd_int (pds_cons pd_int (pds_cons pd_int (pds_cons pd_int (pds_cons pd_int pds_nil)))))))))) (pd_fn (ok__law_next T) (en.room.mono (by decide)) en.gu tk (pds_cons (pd_var 3) (pds_cons pd_int pds_nil)))) (pgd_name 4 nd).pg)
    (psds_cons (psd_par rfl nd (pds_cons (pd_fn (ok__law_numbers T) (en.room.mono (by decide)) en.gu tk (pds_cons (pd_var 3) (pds_cons (pd_var 4) pds_nil))) (pds_cons (pd_fn (ok__law_numbers T) (en.room.mono (by decide)) en.gu tk (pds_cons (pd_var 3) (pds_cons (pd_var 4) pds_nil))) pds_nil)))
    (psds_cons (psd_if (pb_w (pw_orD (pb_cmp g_isN (pd_fn (ok_is_square T) (en.room.mono (by decide)) en.gu tk (pds_cons (pd_var 5) pds_nil)) pd_bl (by rfl)) (pw_or1D (pb_cmp g_isN (pd_fn (ok_is_square T) (en.room.mono (by decide)) en.gu tk (pds_cons (pd_fn (ok__law_no_square T) (en.room.mono (by decide)) en.gu tk (pds_cons (pd_var 3) (pds_cons (pd_var 5) pds_nil))) pds_nil)) pd_bl (by rfl))))) (psds_one (psd_ret pd_bl)) psds_nil)
    (psds_cons (psd_asg (pd_fn (ok__law_next T) (en.room.mono (by decide)) en.gu tk (pds_cons (pd_var 3) (pds_cons pd_int pds_nil))) (pgd_name 7 nd).pg)
    (psds_cons (psd_asg (pd_callT (hv := bv_tuple) b_tuple T.n_tuple (pds_cons (pd_keep (pf_lc rfl nd (pid_range1 T.n_range (pds_cons (pd_var 4) pds_nil)) (own := [("_law_row", 14)]) (blkOk_by (by kernel_rfl)) (plc_no (fun _ _ _ _ _ => (pgx_name 14 nd)) (fun _ _ _ _ _ => (pd_callT (hv := bv_tuple) b_tuple T.n_tuple (pds_cons (pd_keep (pf_lc rfl nd (pid_range1 T.n_range (pds_cons (pd_var 4) pds_nil)) (own := [("_law_at", 15)]) (blkOk_by (by kernel_rfl)) (plc_no (fun _ _ _ _ _ => (pgx_name 15 nd)) (fun _ _ _ _ _ => (pd_callT (hv := bv_int) b_int T.n_int (pds_cons (pd_cmp (g_eq en.u64) (pd_var 14) (pd_var 15) (by rfl)) pds_nil)))))) pds_nil)))))) pds_nil)) (pgd_name 8 nd).pg)
    (psds_cons (psd_for en.hp rfl (pid_range1 T.n_range (pds_cons (pd_var 7) pds_nil)) (pgd_name 9 nd).pg (psds_one (psd_asg (pd_fn (ok__law_product T) (en.room.mono (by decide)) en.gu tk (pds_cons (pd_var 8) (pds_cons (pd_var 5) pds_nil))) (pgd_name 8 nd).pg)))
    (psds_cons (psd_asg (pd_fn (ok__law_poly T) (en.room.mono (by decide)) en.gu tk (pds_cons (pd_var 5) pds_nil)) (pgd_name 10 nd).pg)
    (psds_one (psd_for en.hp rfl (pid_range1 T.n_range (pds_cons pd_int pds_nil)) (pgd_name 9 nd).pg (psds_cons (psd_asg (pd_fn (ok_square_power T) (en.room.mono (by decide)) en.gu tk (pds_cons (pd_var 5) (pds_cons (pd_var 7) pds_nil))) (pgd_name 11 nd).pg)
    (psds_cons (psd_if (pb_w (pw_orD (pb_not (pb_tru (pd_fn (ok__law_are_whole T) (en.room.mono (by decide)) en.gu tk (pds_cons (pd_var 11) pds_nil)))) (pw_orD (pb_cmp (g_ne en.u64) (pd_var 11) (pd_var 8) (by rfl)) (pw_or1D (pb_cmp (g_ne en.u64) (pd_fn (ok_square_times T) (en.room.mono (by decide)) en.gu tk (pds_cons (pd_var 5) (pds_cons (pd_var 6) pds_nil))) (pd_fn (ok__law_product T) (en.room.mono (by decide)) en.gu tk (pds_cons (pd_var 5) (pds_cons (pd_var 6) pds_nil))) (by rfl)))))) (psds_one (psd_ret pd_bl)) psds_nil)
    (psds_cons (psd_asg (pd_fn (ok_square_poly T) (en.room.mono (by decide)) en.gu tk (pds_cons (pd_var 5) pds_nil)) (pgd_name 12 nd).pg)
    (psds_one (psd_if (pb_w (pw_orD (pb_not (pb_tru (pd_fn (ok__law_are_whole T) (en.room.mono (by decide)) en.gu tk (pds_cons (pd_tup (pds_cons (pd_var 12) pds_nil)) pds_nil)))) (pw_or1D (pb_cmp (g_ne en.u64) (pd_var 12) (pd_var 10) (by rfl))))) (psds_one (psd_ret pd_bl)) psds_nil))))))))))))))))
    (psds_cons (psd_asg (pd_bin g_add pd_int (pd_fn (ok__law_next T) (en.room.mono (by decide)) en.gu tk (pds_cons (pd_var 3) (pds_cons pd_int pds_nil)))) (pgd_name 13 nd).pg)
    (psds_cons (psd_if (pb_cmp (g_ne en.u64) (pd_fn (ok_square_power T) (en.room.mono (by decide)) en.gu tk (pds_cons (pd_tup (pds_cons (pd_tup (pds_cons pd_int (pds_cons pd_int pds_nil))) (pds_cons (pd_tup (pds_cons pd_int (pds_cons pd_int pds_nil))) pds_nil))) (pds_cons (pd_var 13) pds_nil))) (pd_ix (pd_tup (pds_cons (pd_tup (pds_cons (pd_tup (pds_cons pd_int (pds_cons pd_int pds_nil))) (pds_cons (pd_tup (pds_cons pd_int (pds_cons pd_int pds_nil))) pds_nil))) (pds_cons (pd_tup (pds_cons (pd_tup (pds_cons pd_int (pds_cons pd_int pds_nil))) (pds_cons (pd_tup (pds_cons pd_int (pds_cons pd_int pds_nil))) pds_nil))) pds_nil))) (pd_bin g_mod (pd_var 13) pd_int)) (by rfl)) (psds_one (psd_ret pd_bl)) psds_nil)
    (psds_one (psd_ret (pd_cmp g_is (pd_fn (ok_is_square T) (en.room.mono (by decide)) en.gu tk (pds_cons (pd_callT (hv := bv_tuple) b_tuple T.n_tuple (pds_cons (pd_keep (pf_lc rfl nd (pid_range1 T.n_range (pds_cons pd_int pds_nil)) (own := [("_law_k", 1)]) (blkOk_by (by kernel_rfl)) (plc_no (fun _ _ _ _ _ => (pgx_name 1 nd)) (fun _ _ _ _ _ => (pd_callT (hv := bv_tuple) b_tuple T.n_tuple (pds_cons (pd_keep (pf_rep (pf_lst (pds_cons (pd_var 1) pds_nil)) pd_int)) pds_nil)))))) pds_nil)) pds_nil)) pd_bl (by rfl)))))))
end
/-! the head -/
def dd_is_whole : He.DefD := ⟨("is_whole", none), "is_whole", "is_whole", defArgs st_is_whole, defBody st_is_whole, defScope st_is_whole, [], []⟩
def dd_is_square : He.DefD := ⟨("is_square", none), "is_square", "is_square", defArgs st_is_square, defBody st_is_square, defScope st_is_square, [], []⟩
def dd_square_times : He.DefD := ⟨("square_times", none), "square_times", "square_times", defArgs st_square_times, defBody st_square_times, defScope st_square_times, [], []⟩
def dd_square_one : He.DefD := ⟨("square_one", none), "square_one", "square_one", defArgs st_square_one, defBody st_square_one, defScope st_square_one, [], []⟩
def dd_square_power : He.DefD := ⟨("square_power", none), "square_power", "square_power", defArgs st_square_power, defBody st_square_power, defScope st_square_power, [], []⟩
def dd_square_sum : He.DefD := ⟨("square_sum", none), "square_sum", "square_sum", defArgs st_square_sum, defBody st_square_sum, defScope st_square_sum, [], []⟩
def dd_square_poly : He.DefD := ⟨("square_poly", none), "square_poly", "square_poly", defArgs st_square_poly, defBody st_square_poly, defScope st_square_poly, [], []⟩
def dd__law_mixed : He.DefD := ⟨("_law_mixed", none), "_law_mixed", "_law_mixed", defArgs st__law_mixed, defBody st__law_mixed, defScope st__law_mixed, [], []⟩
def dd__law_begun : He.DefD := ⟨("_law_begun", none), "_law_begun", "_law_begun", defArgs st__law_begun, defBody st__law_begun, defScope st__law_begun, [], []⟩
def dd__law_next : He.DefD := ⟨("_law_next", none), "_law_next", "_law_next", defArgs st__law_next, defBody st__law_next, defScope st__law_next, [], []⟩
def dd__law_around : He.DefD := ⟨("_law_around", none), "_law_around", "_law_around", defArgs st__law_around, defBody st__law_around, defScope st__law_around, [], []⟩
def dd__law_numbers : He.DefD := ⟨("_law_numbers", none), "_law_numbers", "_law_numbers", defArgs st__law_numbers, defBody st__law_numbers, defScope st__law_numbers, [], []⟩
def dd__law_product : He.DefD := ⟨("_law_product", none), "_law_product", "_law_product", defArgs st__law_product, defBody st__law_product, defScope st__law_product, [], []⟩
def dd__law_poly_sum : He.DefD := ⟨("_law_poly_sum", none), "_law_poly_sum", "_law_poly_sum", defArgs st__law_poly_sum, defBody st__law_poly_sum, defScope st__law_poly_sum, [], []⟩
def dd__law_poly_product : He.DefD := ⟨("_law_poly_product", none), "_law_poly_product", "_law_poly_product", defArgs st__law_poly_product, defBody st__law_poly_product, defScope st__law_poly_product, [], []⟩
def dd__law_determinant : He.DefD := ⟨("_law_determinant", none), "_law_determinant", "_law_determinant", defArgs st__law_determinant, defBody st__law_determinant, defScope st__law_determinant, [], []⟩
def dd__law_poly : He.DefD := ⟨("_law_poly", none), "_law_poly", "_law_poly", defArgs st__law_poly, defBody st__law_poly, defScope st__law_poly, [], []⟩
def dd__law_no_square : He.DefD := ⟨("_law_no_square", none), "_law_no_square", "_law_no_square", defArgs st__law_no_square, defBody st__law_no_square, defScope st__law_no_square, [], []⟩
def dd__law_are_whole : He.DefD := ⟨("_law_are_whole", none), "_law_are_whole", "_law_are_whole", defArgs st__law_are_whole, defBody st__law_are_whole, defScope st__law_are_whole, [], []⟩
def dd_law : He.DefD := ⟨("law", none), "law", "law", defArgs st_law, defBody st_law, defScope st_law, [], []⟩
def fn : List He.DefD := [dd_is_whole, dd_is_square, dd_square_times, dd_square_one, dd_square_power, dd_square_sum, dd_square_poly, dd__law_mixed, dd__law_begun, dd__law_next, dd__law_around, dd__law_numbers, dd__law_product, dd__law_poly_sum, dd__law_poly_product, dd__law_determinant, dd__law_poly, dd__law_no_square, dd__law_are_whole, dd_law]
def li : List (Str × D) := []
def fa : List He.Fa := [.glo "is_whole", .glo "is_square", .glo "square_times", .glo "square_one", .glo "square_power", .glo "square_sum", .glo "square_poly", .glo "_law_mixed", .glo "_law_begun", .glo "_law_next", .glo "_law_around", .glo "_law_numbers", .glo "_law_product", .glo "_law_poly_sum", .glo "_law_poly_product", .glo "_law_determinant", .glo "_law_poly", .glo "_law_no_square", .glo "_law_are_whole", .glo "law", .free "all", .free "bool", .free "enumerate", .free "int", .free "isinstance", .free "len", .free "list", .free "max", .free "range", .free "sum", .free "tuple", .free "zip", .int "MOST_SIDE" 6]
theorem txt {K : Fg} {h : Heap} {mg : Str → Option Value} (X : K.In h) (G : h.Ns mainGlobals mg) (c : He.SaysD fa fn K) (hd : NoDig K) (hl : ∀ (i : Nat) (p : Str × D), li[i]? = some p → litF K p = true) : Txt K mg where
  d_is_whole := (c.def_ 0 (d := dd_is_whole) rfl).elim fun fd F => ⟨_, fd, fun_of F, He.glo_ok X G (c.fact 0 (f := .glo "is_whole") rfl), F.bindsN fun _ _ _ _ _ _ us hl => match us, hl with | [_], _ => rfl⟩
  d_is_square := (c.def_ 1 (d := dd_is_square) rfl).elim fun fd F => ⟨_, fd, fun_of F, He.glo_ok X G (c.fact 1 (f := .glo "is_square") rfl), F.bindsN fun _ _ _ _ _ _ us hl => match us, hl with | [_], _ => rfl⟩
  d_square_times := (c.def_ 2 (d := dd_square_times) rfl).elim fun fd F => ⟨_, fd, fun_of F, He.glo_ok X G (c.fact 2 (f := .glo "square_times") rfl), F.bindsN fun _ _ _ _ _ _ us hl => match us, hl with | [_, _], _ => rfl⟩
  d_square_one := (c.def_ 3 (d := dd_square_one) rfl).elim fun fd F => ⟨_, fd, fun_of F, He.glo_ok X G (c.fact 3 (f := .glo "square_one") rfl), F.bindsN fun _ _ _ _ _ _ us hl => match us, hl with | [_, _], _ => rfl⟩
  d_square_power := (c.def_ 4 (d := dd_square_power) rfl).elim fun fd F => ⟨_, fd, fun_of F, He.glo_ok X G (c.fact 4 (f := .glo "square_power") rfl), F.bindsN fun _ _ _ _ _ _ us hl => match us, hl with | [_, _], _ => rfl⟩
  d_square_sum := (c.def_ 5 (d := dd_square_sum) rfl).elim fun fd F => ⟨_, fd, fun_of F, He.glo_ok X G (c.fact 5 (f := .glo "square_sum") rfl), F.bindsN fun _ _ _ _ _ _ us hl => match us, hl with | [_, _], _ => rfl⟩
  d_square_poly := (c.def_ 6 (d := dd_square_poly) rfl).elim fun fd F => ⟨_, fd, fun_of F, He.glo_ok X G (c.fact 6 (f := .glo "square_poly") rfl), F.bindsN fun _ _ _ _ _ _ us hl => match us, hl with | [_], _ => rfl⟩
  d__law_mixed := (c.def_ 7 (d := dd__law_mixed) rfl).elim fun fd F => ⟨_, fd, fun_of F, He.glo_ok X G (c.fact 7 (f := .glo "_law_mixed") rfl), F.bindsN fun _ _ _ _ _ _ us hl => match us, hl with | [_, _], _ => rfl⟩
  d__law_begun := (c.def_ 8 (d := dd__law_begun) rfl).elim fun fd F => ⟨_, fd, fun_of F, He.glo_ok X G (c.fact 8 (f := .glo "_law_begun") rfl), F.bindsN fun _ _ _ _ _ _ us hl => match us, hl with | [_, _, _], _ => rfl⟩
  d__law_next := (c.def_ 9 (d := dd__law_next) rfl).elim fun fd F => ⟨_, fd, fun_of F, He.glo_ok X G (c.fact 9 (f := .glo "_law_next") rfl), F.bindsN fun _ _ _ _ _ _ us hl => match us, hl with | [_, _], _ => rfl⟩
  d__law_around := (c.def_ 10 (d := dd__law_around) rfl).elim fun fd F => ⟨_, fd, fun_of F, He.glo_ok X G (c.fact 10 (f := .glo "_law_around") rfl), F.bindsN fun _ _ _ _ _ _ us hl => match us, hl with | [_, _], _ => rfl⟩
  d__law_numbers := (c.def_ 11 (d := dd__law_numbers) rfl).elim fun fd F => ⟨_, fd, fun_of F, He.glo_ok X G (c.fact 11 (f := .glo "_law_numbers") rfl), F.bindsN fun _ _ _ _ _ _ us hl => match us, hl with | [_, _], _ => rfl⟩
  d__law_product := (c.def_ 12 (d := dd__law_product) rfl).elim fun fd F => ⟨_, fd, fun_of F, He.glo_ok X G (c.fact 12 (f := .glo "_law_product") rfl), F.bindsN fun _ _ _ _ _ _ us hl => match us, hl with | [_, _], _ => rfl⟩
  d__law_poly_sum := (c.def_ 13 (d := dd__law_poly_sum) rfl).elim fun fd F => ⟨_, fd, fun_of F, He.glo_ok X G (c.fact 13 (f := .glo "_law_poly_sum") rfl), F.bindsN fun _ _ _ _ _ _ us hl => match us, hl with | [_, _], _ => rfl⟩
  d__law_poly_product := (c.def_ 14 (d := dd__law_poly_product) rfl).elim fun fd F => ⟨_, fd, fun_of F, He.glo_ok X G (c.fact 14 (f := .glo "_law_poly_product") rfl), F.bindsN fun _ _ _ _ _ _ us hl => match us, hl with | [_, _], _ => rfl⟩
  d__law_determinant := (c.def_ 15 (d := dd__law_determinant) rfl).elim fun fd F => ⟨_, fd, fun_of F, He.glo_ok X G (c.fact 15 (f := .glo "_law_determinant") rfl), F.bindsN fun _ _ _ _ _ _ us hl => match us, hl with | [_], _ => rfl⟩
  d__law_poly := (c.def_ 16 (d := dd__law_poly) rfl).elim fun fd F => ⟨_, fd, fun_of F, He.glo_ok X G (c.fact 16 (f := .glo "_law_poly") rfl), F.bindsN fun _ _ _ _ _ _ us hl => match us, hl with | [_], _ => rfl⟩
  d__law_no_square := (c.def_ 17 (d := dd__law_no_square) rfl).elim fun fd F => ⟨_, fd, fun_of F, He.glo_ok X G (c.fact 17 (f := .glo "_law_no_square") rfl), F.bindsN fun _ _ _ _ _ _ us hl => match us, hl with | [_, _], _ => rfl⟩
  d__law_are_whole := (c.def_ 18 (d := dd__law_are_whole) rfl).elim fun fd F => ⟨_, fd, fun_of F, He.glo_ok X G (c.fact 18 (f := .glo "_law_are_whole") rfl), F.bindsN fun _ _ _ _ _ _ us hl => match us, hl with | [_], _ => rfl⟩
  d_law := (c.def_ 19 (d := dd_law) rfl).elim fun fd F => ⟨_, fd, fun_of F, He.glo_ok X G (c.fact 19 (f := .glo "law") rfl), F.bindsN fun _ _ _ _ _ _ us hl => match us, hl with | [_], _ => rfl⟩
  n_all := He.free_ok X G (c.fact 20 (f := .free "all") rfl)
  n_bool := He.free_ok X G (c.fact 21 (f := .free "bool") rfl)
  n_enumerate := He.free_ok X G (c.fact 22 (f := .free "enumerate") rfl)
  n_int := He.free_ok X G (c.fact 23 (f := .free "int") rfl)
  n_isinstance := He.free_ok X G (c.fact 24 (f := .free "isinstance") rfl)
  n_len := He.free_ok X G (c.fact 25 (f := .free "len") rfl)
  n_list := He.free_ok X G (c.fact 26 (f := .free "list") rfl)
  n_max := He.free_ok X G (c.fact 27 (f := .free "max") rfl)
  n_range := He.free_ok X G (c.fact 28 (f := .free "range") rfl)
  n_sum := He.free_ok X G (c.fact 29 (f := .free "sum") rfl)
  n_tuple := He.free_ok X G (c.fact 30 (f := .free "tuple") rfl)
  n_zip := He.free_ok X G (c.fact 31 (f := .free "zip") rfl)
  g_MOST_SIDE := He.int_ok X G (c.fact 32 (f := .int "MOST_SIDE" 6) rfl)
  dig := hd
end DL
set_option Elab.async false
set_option linter.all false
set_option maxRecDepth 100000
set_option maxHeartbeats 0
set_option autoImplicit false
namespace DL
open PySem PySem.Spec PyProof.Rows L2
abbrev R : PySem.W.OpenRow := PySem.W.OpenLaw.row PySem.Challenge.rw_roundless_k29_squares_and_polys
abbrev hk : PySem.W.Hook := hookL 4 fa fn li
def ob (s : PySem.W.SharedT) : He.AlD := obsLG 4 fa fn li (HandSHeadRun.getT s)
theorem ob_eq (s : PySem.W.SharedT) : ob s = hk.obs s.abs   := obsLG_eq (HandSHeadRun.getT_eq s)
def loose : List Str := "MOST_SIDE" :: "is_whole" :: "is_square" :: "square_one" :: "square_sum" :: "square_times" :: "square_power" :: "square_poly" :: "_law_mixed" :: "_law_begun" :: "_law_next" :: "_law_around" :: "_law_numbers" :: "_law_product" :: "_law_poly_sum" :: "_law_poly_product" :: "_law_determinant" :: "_law_poly" :: "_law_no_square" :: "_law_are_whole" :: []
theorem run (w : World) : HandSHeadRun.RunEq R (PySem.W.view R.prog [23]) hk ob 4000 loose w := by
  intro os
  kernel_rfl
end DL
section
open PySem PySem.W PySem.Calls PyProof.Rows
theorem DL.holds_of (hm : ∀ ns : List Int, ns.length ≤ 63 → ∃ S, DL.m_law [.lst (ns.map .int)] [] = .ok (.bl true) S) : PySem.Challenge.rw_roundless_k29_squares_and_polys.Holds := by
  w_on; o_law
  refine HandSHeadRun.head_any (r := OpenLaw.row PySem.Challenge.rw_roundless_k29_squares_and_polys) (q := view (OpenLaw.row PySem.Challenge.rw_roundless_k29_squares_and_polys).prog [23]) (H := DL.hk) (ob := DL.ob) (M := 4000) (loose := DL.loose) (d := HandSHeadRun.topDef (OpenLaw.row PySem.Challenge.rw_roundless_k29_squares_and_polys).prog 23) (kwd := []) DL.ob_eq
    (by kernel_rfl) (fun s => by kernel_rfl) DL.run (by kernel_rfl) (by kernel_rfl) (by kernel_rfl) (by rfl) (by first | assumption | decide +kernel) (by decide +kernel) ⟨rfl, rfl, rfl, rfl, rfl, by decide +kernel⟩ ?hw ?hc
  case hw => w_witness2
  case hc =>
    refine DL.walkG (l := PySem.Challenge.rw_roundless_k29_squares_and_polys) (n := 63) (k := 12) (m := DL.m_law) rfl (by decide) (by kernel_rfl) ⟨rfl, by decide, by decide⟩ ?F hm
    intro w mg h Y G
    obtain ⟨K, KX, c⟩ := Y
    have e : (HandSHeadRun.topDef (OpenLaw.row PySem.Challenge.rw_roundless_k29_squares_and_polys).prog 23).name = ("law" : PySem.Str) := by kernel_rfl
    refine ⟨K, KX, fun base _ _ => ?_⟩
    rw [e]
    exact DL.ok_law (DL.txt KX G (DL.SaysL.all c).1 (DL.SaysL.all c).2.1 (DL.SaysL.all c).2.2)
end
set_option Elab.async false
set_option linter.all false
set_option maxRecDepth 100000
set_option maxHeartbeats 4000000
set_option autoImplicit false
/-! Draws: the state, numbers, fractions. -/
namespace DL
open PySem L2
open Emb
local macro_rules | `(tactic| walk_at "1") => `(tactic| with_reducible first
  | refine s_seq ?_ | refine s_asg ?_ | refine s_ret ?_ | refine s_if ?_ | refine s_expr ?_ | refine s_next ?_ | refine s_brk ?_ | refine s_cont ?_ | refine s_for ?_ | refine s_while ?_
  | refine p_c ?_ | refine p_bin ?_ | refine p_as ?_ | refine p_cons ?_ | refine p_nil ?_ | refine p_un ?_ | refine p_call ?_ | refine p_if ?_ | refine p_own ?_
  | refine p_keep ?_ | refine p_tru ?_ | refine p_and ?_ | refine p_or ?_ | refine p_not ?_ | refine p_val ?_ | refine p_rand ?_ | refine p_ror ?_ | refine p_rnot ?_ | refine p_chain ?_ | refine p_bif ?_
  | refine o_add ?_ | refine o_sub ?_ | refine o_ltU ?_ | refine o_leU ?_ | refine o_gtU ?_ | refine o_geU ?_ | refine o_neg ?_ | refine o_eqI ?_ | refine o_neI ?_ | refine o_abs ?_ | refine o_tru ?_ | refine p_true ?_ | refine p_false ?_
  | refine o_lenT ?_ | refine o_lenL ?_
  | refine s_par ?_ | refine p_yes ?_ | refine p_lc ?_ | refine p_seq ?_ | refine s_gnil ?_ | refine s_gcons ?_ | refine s_gtux ?_ | refine p_onone ?_ | refine p_osome ?_)
local macro_rules | `(tactic| walk_at "2") => `(tactic| first
  | walk_at "1"
  | (with_reducible refine p_var2 ?_)
  | ((with_reducible refine s_name ?_ ?_); (· exact Nat.le_of_ble_eq_true rfl); dsimp only [List.set_cons_zero, List.set_cons_succ])
  | (with_reducible refine p_tup ?_) | ((with_reducible refine ⟨?_, ?_⟩); (· exact Nat.le_of_ble_eq_true rfl))
  | ((with_reducible refine p_ex2 (x := ?_) (y := ?_) ?_ ?_); rotate_left; rotate_left; (· rfl); refine ⟨?_, ?_, ?_⟩; (· exact Nat.le_of_ble_eq_true rfl); (· exact Nat.le_of_ble_eq_true rfl); dsimp only [List.set_cons_zero, List.set_cons_succ])
  | ((with_reducible refine p_isT ?_ ?_); (· rfl)) | ((with_reducible refine p_isF ?_ ?_); (· rfl))
  | ((with_reducible refine p_ex (x := ?_) ?_ ?_); rotate_left; (· rfl)))
local macro_rules | `(tactic| walk_at "3") => `(tactic| repeat (first | walk_at "2" | (with_reducible refine p_lst ?_)))
def stD (ns : List Int) (a : Int) : D := .dct [(.str "script", .lst (ns.map .int)), (.str "at", .int a), (.str "rest", .ptr 0)]
/-- the state of the draws: slots 0 and 1 of the store -/
structure Sta (c : Nat) (S : Sto) : Prop where
  ex : ∃ (ns rs : List Int) (a : Int), S[0]? = some (.lst (rs.map .int)) ∧ S[1]? = some (stD ns a) ∧ rs.length = ns.length ∧ 0 ≤ a ∧ a ≤ c
  sane : Sane S
/-- on to another store: the state goes on, all else stays -/
structure Go (c : Nat) (S S' : Sto) : Prop where
  sta : Sta c S'
  len : S'.length = S.length
  rest : ∀ k, 2 ≤ k → S'[k]? = S[k]?
theorem Sta.len {c : Nat} {S : Sto} (h : Sta c S) : 2 ≤ S.length := by
  obtain ⟨ns, rs, a, h1, h2, _⟩ := h.ex
  have := (List.getElem?_eq_some_iff.mp h2).1
  omega
theorem Go.trans {c c' : Nat} {S S1 S2 : Sto} (h : Go c S S1) (g : Go c' S1 S2) : Go c' S S2 := ⟨g.sta, g.len.trans h.len, fun k hk => (g.rest k hk).trans (h.rest k hk)⟩
/-- more is made behind -/
theorem Sta.app {c : Nat} {S : Sto} {u : D} (h : Sta c S) (hu : D.closed (S.length + 1) u = true) : Sta c (S ++ [u]) := by
  obtain ⟨ns, rs, a, h1, h2, h3, h4, h5⟩ := h.ex
  have l := h.len
  exact ⟨⟨ns, rs, a, by rw [List.getElem?_append_left (by omega)]; exact h1, by rw [List.getElem?_append_left (by omega)]; exact h2, h3, h4, h5⟩, sane_app h.sane hu⟩
/-! ### products of boxes that are drawn -/
end DL
set_option Elab.async false
set_option linter.all false
set_option maxRecDepth 100000
set_option maxHeartbeats 4000000
set_option autoImplicit false
/-! Items of tuples. -/
namespace DL
open PySem L2
open Emb
theorem o_ix0 {S : Sto} {a : D} {r : List D} {Q : D → Sto → Prop} (h : Q a S) : (Res.lift (gIx S (.tup (a :: r)) (.int 0)) S).post Q := o_ixT atI_0 h
theorem o_ix1 {S : Sto} {a b : D} {r : List D} {Q : D → Sto → Prop} (h : Q b S) : (Res.lift (gIx S (.tup (a :: b :: r)) (.int 1)) S).post Q := o_ixT atI_1 h
theorem o_ix2 {S : Sto} {a b c : D} {r : List D} {Q : D → Sto → Prop} (h : Q c S) : (Res.lift (gIx S (.tup (a :: b :: c :: r)) (.int 2)) S).post Q := o_ixT atI_2 h
theorem o_ix0L {S : Sto} {a : D} {r : List D} {Q : D → Sto → Prop} (h : Q a S) : (Res.lift (gIx S (.lst (a :: r)) (.int 0)) S).post Q := o_ixL atI_0 h
theorem o_ix1L {S : Sto} {a b : D} {r : List D} {Q : D → Sto → Prop} (h : Q b S) : (Res.lift (gIx S (.lst (a :: b :: r)) (.int 1)) S).post Q := o_ixL atI_1 h
theorem o_ix2L {S : Sto} {a b c : D} {r : List D} {Q : D → Sto → Prop} (h : Q c S) : (Res.lift (gIx S (.lst (a :: b :: c :: r)) (.int 2)) S).post Q := o_ixL atI_2 h
theorem s_gtupl {u : List D → Sl → Sto → Res Sl} {ds : List D} {δ : Sl} {S : Sto} {QS : Sl → Sto → Prop} (h : (u ds δ S).post QS) : (gTup u (.tup ds) δ S).post QS := s_gtup rfl h
end DL
set_option Elab.async false
set_option linter.all false
set_option maxRecDepth 100000
set_option maxHeartbeats 4000000
set_option autoImplicit false
/-! k30: the program's poly at a number, slopes, a poly divided. -/
namespace DL
open PySem L2
open Emb
local macro_rules | `(tactic| walk_at "1") => `(tactic| with_reducible first
  | refine s_seq ?_ | refine s_asg ?_ | refine s_ret ?_ | refine s_if ?_ | refine s_expr ?_ | refine s_next ?_ | refine s_brk ?_ | refine s_cont ?_ | refine s_for ?_ | refine s_while ?_
  | refine p_c ?_ | refine p_bin ?_ | refine p_as ?_ | refine p_cons ?_ | refine p_nil ?_ | refine p_un ?_ | refine p_call ?_ | refine p_if ?_ | refine p_own ?_
  | refine p_keep ?_ | refine p_tru ?_ | refine p_and ?_ | refine p_or ?_ | refine p_not ?_ | refine p_val ?_ | refine p_rand ?_ | refine p_ror ?_ | refine p_rnot ?_ | refine p_chain ?_ | refine p_bif ?_
  | refine o_add ?_ | refine o_sub ?_ | refine o_ltU ?_ | refine o_leU ?_ | refine o_gtU ?_ | refine o_geU ?_ | refine o_neg ?_ | refine o_eqI ?_ | refine o_neI ?_ | refine o_abs ?_ | refine o_tru ?_ | refine p_true ?_ | refine p_false ?_
  | refine o_lenT ?_ | refine o_lenL ?_ | refine o_ix0 ?_ | refine o_ix1 ?_ | refine o_ix2 ?_ | refine o_ix0L ?_ | refine o_ix1L ?_ | refine o_ix2L ?_
  | refine s_par ?_ | refine p_yes ?_ | refine p_seq ?_ | refine s_gnil ?_ | refine s_gcons ?_ | refine s_gtux ?_ | refine s_gtupl ?_ | refine p_onone ?_ | refine p_osome ?_ | refine p_get2 ?_ | refine s_putU ?_ | refine p_sortIt ?_)
local macro_rules | `(tactic| walk_at "2") => `(tactic| first
  | walk_at "1"
  | (with_reducible refine p_var2 ?_)
  | ((with_reducible refine s_name ?_ ?_); (· exact Nat.le_of_ble_eq_true rfl); dsimp only [List.set_cons_zero, List.set_cons_succ])
  | (with_reducible refine p_tup ?_) | (with_reducible refine p_lst ?_) | ((with_reducible refine ⟨?_, ?_⟩); (· exact Nat.le_of_ble_eq_true rfl))
  | ((with_reducible refine p_ex2 (x := ?_) (y := ?_) ?_ ?_); rotate_left; rotate_left; (· rfl); refine ⟨?_, ?_, ?_⟩; (· exact Nat.le_of_ble_eq_true rfl); (· exact Nat.le_of_ble_eq_true rfl); dsimp only [List.set_cons_zero, List.set_cons_succ])
  | ((with_reducible refine p_isT ?_ ?_); (· rfl)) | ((with_reducible refine p_isF ?_ ?_); (· rfl))
  | ((with_reducible refine p_ex (x := ?_) ?_ ?_); rotate_left; (· rfl)))
local macro_rules | `(tactic| walk_at "3") => `(tactic| repeat walk_at "2")
theorem maxI_mem {ns : List Int} (h : ns ≠ []) : ∃ m, maxI ns = some m ∧ m ∈ ns := by
  cases ns with
  | nil => exact absurd rfl h
  | cons i r =>
    refine ⟨r.foldl max i, rfl, ?_⟩
    rcases (foldl_max r i).1 with h | h
    · rw [h]; exact List.mem_cons_self
    · exact List.mem_cons_of_mem _ h
theorem o_maxL {S : Sto} {ns : List Int} {m : Int} {Q : D → Sto → Prop} (e : maxI ns = some m) (h : Q (.int m) S) : (Res.lift (gMax S [.lst (ns.map .int)]) S).post Q := p_lift (by unfold gMax deref; dsimp only; rw [asInts_map]; dsimp only [Option.bind_some]; rw [e]; rfl) h
theorem p_append2 {δ : Sl} {S : Sto} {r : Nat} {x e : RE} {ys : List D} {Q : D → Sto → Prop} (hx : x δ S = .ok (.ptr r) S) (hr : S[r]? = some (.lst ys)) (h : (e δ S).post fun y S2 => ∃ xs, S2[r]? = some (.lst xs) ∧ xs.length < sizeLine ∧ Q .non (S2.set r (.lst (xs ++ [y])))) : (rMeth "list" mAppend x (rCons e rNil) δ S).post Q := by
  refine p_meth (Res.post.of_eq hx ?_)
  refine ⟨?_, ?_⟩
  · unfold isTy
    rw [deref_at hr]
    rfl
  · refine p_cons (h.mono fun y S2 ⟨xs, e4, e3, q2⟩ => p_nil ?_)
    refine ⟨.non, S2.set r (.lst (xs ++ [y])), ?_, q2⟩
    unfold mAppend
    dsimp only
    rw [e4]
    dsimp only
    rw [if_pos e3]
namespace PR
/-! ### sizes -/
end PR
open PR
end DL
set_option Elab.async false
set_option linter.all false
set_option maxRecDepth 100000
set_option maxHeartbeats 4000000
set_option autoImplicit false
/-! k30: keys of whole numbers; where a poly crosses; the spots between. -/
namespace DL
open PySem L2
open Emb
local macro_rules | `(tactic| walk_at "1") => `(tactic| with_reducible first
  | refine s_seq ?_ | refine s_asg ?_ | refine s_ret ?_ | refine s_if ?_ | refine s_expr ?_ | refine s_next ?_ | refine s_brk ?_ | refine s_cont ?_ | refine s_for ?_ | refine s_while ?_
  | refine p_c ?_ | refine p_bin ?_ | refine p_as ?_ | refine p_cons ?_ | refine p_nil ?_ | refine p_un ?_ | refine p_call ?_ | refine p_if ?_ | refine p_own ?_
  | refine p_keep ?_ | refine p_tru ?_ | refine p_and ?_ | refine p_or ?_ | refine p_not ?_ | refine p_val ?_ | refine p_rand ?_ | refine p_ror ?_ | refine p_rnot ?_ | refine p_chain ?_ | refine p_bif ?_
  | refine o_add ?_ | refine o_sub ?_ | refine o_ltU ?_ | refine o_leU ?_ | refine o_gtU ?_ | refine o_geU ?_ | refine o_neg ?_ | refine o_eqI ?_ | refine o_neI ?_ | refine o_abs ?_ | refine o_tru ?_ | refine p_true ?_ | refine p_false ?_
  | refine o_lenT ?_ | refine o_lenL ?_ | refine o_ix0 ?_ | refine o_ix1 ?_ | refine o_ix2 ?_ | refine o_ix0L ?_ | refine o_ix1L ?_ | refine o_ix2L ?_
  | refine s_par ?_ | refine p_yes ?_ | refine p_seq ?_ | refine s_gnil ?_ | refine s_gcons ?_ | refine s_gtux ?_ | refine s_gtupl ?_ | refine p_onone ?_ | refine p_osome ?_ | refine p_get2 ?_ | refine s_putU ?_ | refine p_sortIt ?_)
local macro_rules | `(tactic| walk_at "2") => `(tactic| first
  | walk_at "1"
  | (with_reducible refine p_var2 ?_)
  | ((with_reducible refine s_name ?_ ?_); (· exact Nat.le_of_ble_eq_true rfl); dsimp only [List.set_cons_zero, List.set_cons_succ])
  | (with_reducible refine p_tup ?_) | (with_reducible refine p_lst ?_) | ((with_reducible refine ⟨?_, ?_⟩); (· exact Nat.le_of_ble_eq_true rfl))
  | ((with_reducible refine p_ex2 (x := ?_) (y := ?_) ?_ ?_); rotate_left; rotate_left; (· rfl); refine ⟨?_, ?_, ?_⟩; (· exact Nat.le_of_ble_eq_true rfl); (· exact Nat.le_of_ble_eq_true rfl); dsimp only [List.set_cons_zero, List.set_cons_succ])
  | ((with_reducible refine p_isT ?_ ?_); (· rfl)) | ((with_reducible refine p_isF ?_ ?_); (· rfl))
  | ((with_reducible refine p_ex (x := ?_) ?_ ?_); rotate_left; (· rfl)))
local macro_rules | `(tactic| walk_at "3") => `(tactic| repeat walk_at "2")
open PR
/-! ### dicts of whole keys, all of them true -/
/-! ### where a poly crosses -/
end DL
set_option Elab.async false
set_option linter.all false
set_option maxRecDepth 100000
set_option maxHeartbeats 4000000
set_option autoImplicit false
/-! k30: the spots between. -/
namespace DL
open PySem L2
open Emb
local macro_rules | `(tactic| walk_at "1") => `(tactic| with_reducible first
  | refine s_seq ?_ | refine s_asg ?_ | refine s_ret ?_ | refine s_if ?_ | refine s_expr ?_ | refine s_next ?_ | refine s_brk ?_ | refine s_cont ?_ | refine s_for ?_ | refine s_while ?_
  | refine p_c ?_ | refine p_bin ?_ | refine p_as ?_ | refine p_cons ?_ | refine p_nil ?_ | refine p_un ?_ | refine p_call ?_ | refine p_if ?_ | refine p_own ?_
  | refine p_keep ?_ | refine p_tru ?_ | refine p_and ?_ | refine p_or ?_ | refine p_not ?_ | refine p_val ?_ | refine p_rand ?_ | refine p_ror ?_ | refine p_rnot ?_ | refine p_chain ?_ | refine p_bif ?_
  | refine o_add ?_ | refine o_sub ?_ | refine o_ltU ?_ | refine o_leU ?_ | refine o_gtU ?_ | refine o_geU ?_ | refine o_neg ?_ | refine o_eqI ?_ | refine o_neI ?_ | refine o_abs ?_ | refine o_tru ?_ | refine p_true ?_ | refine p_false ?_
  | refine o_lenT ?_ | refine o_lenL ?_ | refine o_ix0 ?_ | refine o_ix1 ?_ | refine o_ix2 ?_ | refine o_ix0L ?_ | refine o_ix1L ?_ | refine o_ix2L ?_
  | refine s_par ?_ | refine p_yes ?_ | refine p_seq ?_ | refine s_gnil ?_ | refine s_gcons ?_ | refine s_gtux ?_ | refine s_gtupl ?_ | refine p_onone ?_ | refine p_osome ?_ | refine p_get2 ?_ | refine s_putU ?_ | refine p_sortIt ?_)
local macro_rules | `(tactic| walk_at "2") => `(tactic| first
  | walk_at "1"
  | (with_reducible refine p_var2 ?_)
  | ((with_reducible refine s_name ?_ ?_); (· exact Nat.le_of_ble_eq_true rfl); dsimp only [List.set_cons_zero, List.set_cons_succ])
  | (with_reducible refine p_tup ?_) | (with_reducible refine p_lst ?_) | ((with_reducible refine ⟨?_, ?_⟩); (· exact Nat.le_of_ble_eq_true rfl))
  | ((with_reducible refine p_ex2 (x := ?_) (y := ?_) ?_ ?_); rotate_left; rotate_left; (· rfl); refine ⟨?_, ?_, ?_⟩; (· exact Nat.le_of_ble_eq_true rfl); (· exact Nat.le_of_ble_eq_true rfl); dsimp only [List.set_cons_zero, List.set_cons_succ])
  | ((with_reducible refine p_isT ?_ ?_); (· rfl)) | ((with_reducible refine p_isF ?_ ?_); (· rfl))
  | ((with_reducible refine p_ex (x := ?_) ?_ ?_); rotate_left; (· rfl)))
local macro_rules | `(tactic| walk_at "3") => `(tactic| repeat walk_at "2")
open PR
end DL
set_option Elab.async false
set_option linter.all false
set_option maxRecDepth 100000
set_option maxHeartbeats 4000000
set_option autoImplicit false
/-! k30: the spots of a poly. -/
namespace DL
open PySem L2
open Emb
local macro_rules | `(tactic| walk_at "1") => `(tactic| with_reducible first
  | refine s_seq ?_ | refine s_asg ?_ | refine s_ret ?_ | refine s_if ?_ | refine s_expr ?_ | refine s_next ?_ | refine s_brk ?_ | refine s_cont ?_ | refine s_for ?_ | refine s_while ?_
  | refine p_c ?_ | refine p_bin ?_ | refine p_as ?_ | refine p_cons ?_ | refine p_nil ?_ | refine p_un ?_ | refine p_call ?_ | refine p_if ?_ | refine p_own ?_
  | refine p_keep ?_ | refine p_tru ?_ | refine p_and ?_ | refine p_or ?_ | refine p_not ?_ | refine p_val ?_ | refine p_rand ?_ | refine p_ror ?_ | refine p_rnot ?_ | refine p_chain ?_ | refine p_bif ?_
  | refine o_add ?_ | refine o_sub ?_ | refine o_ltU ?_ | refine o_leU ?_ | refine o_gtU ?_ | refine o_geU ?_ | refine o_neg ?_ | refine o_eqI ?_ | refine o_neI ?_ | refine o_abs ?_ | refine o_tru ?_ | refine p_true ?_ | refine p_false ?_
  | refine o_lenT ?_ | refine o_lenL ?_ | refine o_ix0 ?_ | refine o_ix1 ?_ | refine o_ix2 ?_ | refine o_ix0L ?_ | refine o_ix1L ?_ | refine o_ix2L ?_
  | refine s_par ?_ | refine p_yes ?_ | refine p_seq ?_ | refine s_gnil ?_ | refine s_gcons ?_ | refine s_gtux ?_ | refine s_gtupl ?_ | refine p_onone ?_ | refine p_osome ?_ | refine p_get2 ?_ | refine s_putU ?_ | refine p_sortIt ?_)
local macro_rules | `(tactic| walk_at "2") => `(tactic| first
  | walk_at "1"
  | (with_reducible refine p_var2 ?_)
  | ((with_reducible refine s_name ?_ ?_); (· exact Nat.le_of_ble_eq_true rfl); dsimp only [List.set_cons_zero, List.set_cons_succ])
  | (with_reducible refine p_tup ?_) | (with_reducible refine p_lst ?_) | ((with_reducible refine ⟨?_, ?_⟩); (· exact Nat.le_of_ble_eq_true rfl))
  | ((with_reducible refine p_ex2 (x := ?_) (y := ?_) ?_ ?_); rotate_left; rotate_left; (· rfl); refine ⟨?_, ?_, ?_⟩; (· exact Nat.le_of_ble_eq_true rfl); (· exact Nat.le_of_ble_eq_true rfl); dsimp only [List.set_cons_zero, List.set_cons_succ])
  | ((with_reducible refine p_isT ?_ ?_); (· rfl)) | ((with_reducible refine p_isF ?_ ?_); (· rfl))
  | ((with_reducible refine p_ex (x := ?_) ?_ ?_); rotate_left; (· rfl)))
local macro_rules | `(tactic| walk_at "3") => `(tactic| repeat walk_at "2")
open PR
end DL
set_option Elab.async false
set_option linter.all false
set_option maxRecDepth 100000
set_option maxHeartbeats 4000000
set_option autoImplicit false
/-! k30: whole_roots. -/
namespace DL
open PySem L2
open Emb
local macro_rules | `(tactic| walk_at "1") => `(tactic| with_reducible first
  | refine s_seq ?_ | refine s_asg ?_ | refine s_ret ?_ | refine s_if ?_ | refine s_expr ?_ | refine s_next ?_ | refine s_brk ?_ | refine s_cont ?_ | refine s_for ?_ | refine s_while ?_
  | refine p_c ?_ | refine p_bin ?_ | refine p_as ?_ | refine p_cons ?_ | refine p_nil ?_ | refine p_un ?_ | refine p_call ?_ | refine p_if ?_ | refine p_own ?_
  | refine p_keep ?_ | refine p_tru ?_ | refine p_and ?_ | refine p_or ?_ | refine p_not ?_ | refine p_val ?_ | refine p_rand ?_ | refine p_ror ?_ | refine p_rnot ?_ | refine p_chain ?_ | refine p_bif ?_
  | refine o_add ?_ | refine o_sub ?_ | refine o_ltU ?_ | refine o_leU ?_ | refine o_gtU ?_ | refine o_geU ?_ | refine o_neg ?_ | refine o_eqI ?_ | refine o_neI ?_ | refine o_abs ?_ | refine o_tru ?_ | refine p_true ?_ | refine p_false ?_
  | refine o_lenT ?_ | refine o_lenL ?_ | refine o_ix0 ?_ | refine o_ix1 ?_ | refine o_ix2 ?_ | refine o_ix0L ?_ | refine o_ix1L ?_ | refine o_ix2L ?_
  | refine s_par ?_ | refine p_yes ?_ | refine p_seq ?_ | refine s_gnil ?_ | refine s_gcons ?_ | refine s_gtux ?_ | refine s_gtupl ?_ | refine p_onone ?_ | refine p_osome ?_ | refine p_get2 ?_ | refine s_putU ?_ | refine p_sortIt ?_)
local macro_rules | `(tactic| walk_at "2") => `(tactic| first
  | walk_at "1"
  | (with_reducible refine p_var2 ?_)
  | ((with_reducible refine s_name ?_ ?_); (· exact Nat.le_of_ble_eq_true rfl); dsimp only [List.set_cons_zero, List.set_cons_succ])
  | (with_reducible refine p_tup ?_) | (with_reducible refine p_lst ?_) | ((with_reducible refine ⟨?_, ?_⟩); (· exact Nat.le_of_ble_eq_true rfl))
  | ((with_reducible refine p_ex2 (x := ?_) (y := ?_) ?_ ?_); rotate_left; rotate_left; (· rfl); refine ⟨?_, ?_, ?_⟩; (· exact Nat.le_of_ble_eq_true rfl); (· exact Nat.le_of_ble_eq_true rfl); dsimp only [List.set_cons_zero, List.set_cons_succ])
  | ((with_reducible refine p_isT ?_ ?_); (· rfl)) | ((with_reducible refine p_isF ?_ ?_); (· rfl))
  | ((with_reducible refine p_ex (x := ?_) ?_ ?_); rotate_left; (· rfl)))
local macro_rules | `(tactic| walk_at "3") => `(tactic| repeat walk_at "2")
open PR
def hit (R : List Int) (x : Int) : Bool := decide (0 < R.count x)
end DL
set_option Elab.async false
set_option linter.all false
set_option maxRecDepth 100000
set_option maxHeartbeats 4000000
set_option autoImplicit false
/-! k31: squares, as the program has them. -/
namespace DL
open PySem L2
open Emb
local macro_rules | `(tactic| walk_at "1") => `(tactic| with_reducible first
  | refine s_seq ?_ | refine s_asg ?_ | refine s_ret ?_ | refine s_if ?_ | refine s_expr ?_ | refine s_next ?_ | refine s_brk ?_ | refine s_cont ?_ | refine s_for ?_ | refine s_while ?_
  | refine p_c ?_ | refine p_bin ?_ | refine p_as ?_ | refine p_cons ?_ | refine p_nil ?_ | refine p_un ?_ | refine p_call ?_ | refine p_if ?_ | refine p_own ?_
  | refine p_keep ?_ | refine p_tru ?_ | refine p_and ?_ | refine p_or ?_ | refine p_not ?_ | refine p_val ?_ | refine p_rand ?_ | refine p_ror ?_ | refine p_rnot ?_ | refine p_chain ?_ | refine p_bif ?_
  | refine o_add ?_ | refine o_sub ?_ | refine o_ltU ?_ | refine o_leU ?_ | refine o_gtU ?_ | refine o_geU ?_ | refine o_neg ?_ | refine o_eqI ?_ | refine o_neI ?_ | refine o_abs ?_ | refine o_tru ?_ | refine p_true ?_ | refine p_false ?_
  | refine o_lenT ?_ | refine o_lenL ?_ | refine o_ix0 ?_ | refine o_ix1 ?_ | refine o_ix2 ?_ | refine o_ix0L ?_ | refine o_ix1L ?_ | refine o_ix2L ?_
  | refine s_par ?_ | refine p_yes ?_ | refine p_seq ?_ | refine s_gnil ?_ | refine s_gcons ?_ | refine s_gtux ?_ | refine s_gtupl ?_ | refine p_onone ?_ | refine p_osome ?_ | refine p_get2 ?_ | refine s_putU ?_ | refine p_sortIt ?_)
local macro_rules | `(tactic| walk_at "2") => `(tactic| first
  | walk_at "1"
  | (with_reducible refine p_var2 ?_)
  | ((with_reducible refine s_name ?_ ?_); (· exact Nat.le_of_ble_eq_true rfl); dsimp only [List.set_cons_zero, List.set_cons_succ])
  | (with_reducible refine p_tup ?_) | (with_reducible refine p_lst ?_) | ((with_reducible refine ⟨?_, ?_⟩); (· exact Nat.le_of_ble_eq_true rfl))
  | ((with_reducible refine p_ex2 (x := ?_) (y := ?_) ?_ ?_); rotate_left; rotate_left; (· rfl); refine ⟨?_, ?_, ?_⟩; (· exact Nat.le_of_ble_eq_true rfl); (· exact Nat.le_of_ble_eq_true rfl); dsimp only [List.set_cons_zero, List.set_cons_succ])
  | ((with_reducible refine p_isT ?_ ?_); (· rfl)) | ((with_reducible refine p_isF ?_ ?_); (· rfl))
  | ((with_reducible refine p_ex (x := ?_) ?_ ?_); rotate_left; (· rfl)))
local macro_rules | `(tactic| walk_at "3") => `(tactic| repeat walk_at "2")
theorem atI_nat {xs : List D} {k : Nat} {d : D} (h : xs[k]? = some d) : atI xs (k : Int) = some d := by
  have hk := (List.getElem?_eq_some_iff.mp h).1
  unfold atI ixN
  rw [if_pos (by omega), if_pos (by omega)]
  exact h
open PR
theorem p_zipM {a : RA} {δ : Sl} {S : Sto} {Q : List D → Sto → Prop} (h : (a δ S).post fun xs S1 => ∃ ds es, xs = [.tup ds, .lst es] ∧ Q (zipD ds es) S1) : (rZipM a δ S).post Q :=
  p_bind (h.mono fun xs S1 ⟨ds, es, e, q⟩ => by subst e; exact q)
def rowN (n : Nat) (f : Nat → Int) : List D := (List.range n).map fun j => D.int (f j)
def rowD' (n : Nat) (A : Mt) (i : Nat) : D := .tup (rowN n (A i))
def sqD (n : Nat) (A : Mt) : D := .tup ((List.range n).map (rowD' n A))
theorem rowN_int (n : Nat) (f : Nat → Int) : rowN n f = ((List.range n).map f).map .int := by unfold rowN; rw [List.map_map]; rfl
theorem rowN_closed {m n : Nat} {f : Nat → Int} : closedL m (rowN n f) = true := by rw [rowN_int]; exact closed_ints' _
theorem closedL_all {m : Nat} : ∀ {l : List D}, (∀ d ∈ l, D.closed m d = true) → closedL m l = true
  | [], _ => rfl
  | d :: r, h => by
    show (D.closed m d && closedL m r) = true
    rw [h d List.mem_cons_self, closedL_all fun x hx => h x (List.mem_cons_of_mem _ hx)]; rfl
theorem sqD_closed {m n : Nat} {A : Mt} : D.closed m (sqD n A) = true := by
  unfold sqD D.closed
  refine closedL_all fun d hd => ?_
  obtain ⟨i, _, rfl⟩ := List.mem_map.mp hd
  unfold rowD' D.closed
  exact rowN_closed
theorem zip_rng {n : Nat} {f g : Nat → D} : zipD ((List.range n).map f) ((List.range n).map g) = (List.range n).map fun i => D.tux [f i, g i] := by
  have : ∀ l : List Nat, zipD (l.map f) (l.map g) = l.map fun i => D.tux [f i, g i] := fun l => by
    induction l with
    | nil => rfl
    | cons i r ih => show D.tux [f i, g i] :: zipD (r.map f) (r.map g) = _; rw [ih]; rfl
  exact this _
/-- a comprehension over a range -/
theorem lc_rng {n : Nat} {e : RE} {f : Nat → D} {δ : Sl} {S : Sto} {Q : D → Sto → Prop} {it : RA} {g : RG} {vs : List Nat} (ti : Nat → D) (hit : it δ S = .ok ((List.range n).map ti) S) (hn : n ≤ 1000) (h : ∀ k, k < n → ∃ δ1, g (ti k) (wipeD δ vs) S = .ok δ1 S ∧ e δ1 S = .ok (f k) S) (q : Q (.lst ((List.range n).map f)) S) : (rLc it g vs bYes e δ S).post Q := by
  have sl : 16000000 ≤ sizeLine := by decide
  refine p_lc ?_
  refine Res.post.of_eq hit ?_
  refine Res.post.of_eq (lcTm (xs := List.range n) ti id f fun k hk => h k (List.mem_range.mp hk)) ⟨by rw [List.map_id, List.length_map, List.length_range]; omega, ?_⟩
  rw [List.map_id]
  exact q
theorem rng_ok {a : RE} {n : Nat} {δ : Sl} {S : Sto} (ha : a δ S = .ok (.int n) S) (hn : n ≤ 1000) : rRange (rCons a rNil) δ S = .ok ((List.range n).map fun i : Nat => D.int i) S := exact_of (by
  with_reducible refine p_range1 ?_
  refine p_cons (Res.post.of_eq ha (p_nil ⟨_, rfl, by omega, by omega, ?_⟩))
  rw [rangeD_nat]
  exact ⟨rfl, rfl⟩)
theorem var_ok {i : Nat} {d : D} {δ : Sl} {S : Sto} (h : δ[i]? = some (some d)) : rVar i δ S = .ok d S := exact_of (p_var h ⟨rfl, rfl⟩)
/-- a comprehension over range(a name) -/
theorem lc_var {n i : Nat} {e : RE} {f : Nat → D} {δ : Sl} {S : Sto} {Q : D → Sto → Prop} {g : RG} {vs : List Nat} (hi : δ[i]? = some (some (.int (n : Int)))) (hn : n ≤ 1000) (h : ∀ k : Nat, k < n → ∃ δ1, g (.int (k : Int)) (wipeD δ vs) S = .ok δ1 S ∧ e δ1 S = .ok (f k) S) (q : Q (.lst ((List.range n).map f)) S) : (rLc (rRange (rCons (rVar i) rNil)) g vs bYes e δ S).post Q :=
  lc_rng (fun i : Nat => D.int i) (rng_ok (var_ok hi) hn) hn h q
theorem square_one_spec (n : Nat) (hn : n ≤ 6) (c : Int) (S : Sto) (hS : Sane S) : m_square_one [.int n, .int c] S = .ok (sqD n (smu c (one n))) S := by
  refine m_defS hS sqD_closed ?_
  show (b_square_one [some (.int n), some (.int c), none, none] S).post _ _ _ _
  unfold b_square_one
  walk_at "3"
  with_reducible refine lc_var (n := n) (f := rowD' n (smu c (one n))) ?_ ?_ (fun k hk => ?_) ?_
  · rfl
  · omega
  · refine ⟨_, rfl, ?_⟩
    refine exact_of ?_
    dsimp only [wipeD, List.set_cons_zero, List.set_cons_succ]
    walk_at "3"
    with_reducible refine lc_var (n := n) (f := fun j => D.int (smu c (one n) k j)) ?_ ?_ (fun j hj => ?_) ?_
    · rfl
    · omega
    · refine ⟨_, rfl, ?_⟩
      refine exact_of ?_
      dsimp only [wipeD, List.set_cons_zero, List.set_cons_succ]
      walk_at "3"
      refine p_lift (a := .int (if ((j : Int) == (k : Int)) then 1 else 0)) rfl ?_
      walk_at "3"
      have hi : (if ((j : Int) == (k : Int)) = true then (1 : Int) else 0) = one n k j := by
        unfold one
        by_cases e : j = k
        · subst e; rw [if_pos (by simp), if_pos ⟨rfl, hk⟩]
        · rw [if_neg (by simpa using fun q : (j : Int) = k => e (by omega)), if_neg (fun q => e q.1.symm)]
      rw [hi]
      refine o_mul (fits_r (by unfold one; split <;> decide)) ?_
      exact ⟨rfl, rfl⟩
    · walk_at "3"
      exact ⟨rfl, rfl⟩
  · walk_at "3"
    exact ⟨rfl, rfl⟩
theorem square_sum_spec (n : Nat) (hn : n ≤ 6) (A B : Mt) (S : Sto) (hS : Sane S) : m_square_sum [sqD n A, sqD n B] S = .ok (sqD n (add A B)) S := by
  refine m_defS hS sqD_closed ?_
  show (b_square_sum [some (sqD n A), some (sqD n B), none, none, none, none] S).post _ _ _ _
  unfold b_square_sum
  walk_at "3"
  refine lc_rng (n := n) (f := rowD' n (add A B)) (fun i => D.tux [rowD' n A i, rowD' n B i]) (exact_of ?_) (by omega) (fun k hk => ⟨_, rfl, ?_⟩) ?_
  · refine p_zipA ?_
    walk_at "3"
    refine .inr ⟨_, _, rfl, ?_⟩
    rw [zip_rng]
    exact ⟨rfl, rfl⟩
  · refine exact_of ?_
    dsimp only [wipeD, List.set_cons_zero, List.set_cons_succ]
    walk_at "3"
    refine lc_rng (n := n) (f := fun j => D.int (add A B k j)) (fun j => D.tux [.int (A k j), .int (B k j)]) (exact_of ?_) (by omega) (fun j hj => ⟨_, rfl, ?_⟩) ?_
    · refine p_zipA ?_
      walk_at "3"
      refine .inr ⟨_, _, rfl, ?_⟩
      unfold rowN
      rw [zip_rng]
      exact ⟨rfl, rfl⟩
    · refine exact_of ?_
      dsimp only [wipeD, List.set_cons_zero, List.set_cons_succ]
      walk_at "3"
      exact ⟨rfl, rfl⟩
    · walk_at "3"
      exact ⟨rfl, rfl⟩
  · walk_at "3"
    exact ⟨rfl, rfl⟩
end DL
set_option Elab.async false
set_option linter.all false
set_option maxRecDepth 100000
set_option maxHeartbeats 4000000
set_option autoImplicit false
/-! k31: products of squares, the poly of a square. -/
namespace DL
open PySem L2
open Emb
local macro_rules | `(tactic| walk_at "1") => `(tactic| with_reducible first
  | refine s_seq ?_ | refine s_asg ?_ | refine s_ret ?_ | refine s_if ?_ | refine s_expr ?_ | refine s_next ?_ | refine s_brk ?_ | refine s_cont ?_ | refine s_for ?_ | refine s_while ?_
  | refine p_c ?_ | refine p_bin ?_ | refine p_as ?_ | refine p_cons ?_ | refine p_nil ?_ | refine p_un ?_ | refine p_call ?_ | refine p_if ?_ | refine p_own ?_
  | refine p_keep ?_ | refine p_tru ?_ | refine p_and ?_ | refine p_or ?_ | refine p_not ?_ | refine p_val ?_ | refine p_rand ?_ | refine p_ror ?_ | refine p_rnot ?_ | refine p_chain ?_ | refine p_bif ?_
  | refine o_add ?_ | refine o_sub ?_ | refine o_ltU ?_ | refine o_leU ?_ | refine o_gtU ?_ | refine o_geU ?_ | refine o_neg ?_ | refine o_eqI ?_ | refine o_neI ?_ | refine o_abs ?_ | refine o_tru ?_ | refine p_true ?_ | refine p_false ?_
  | refine o_lenT ?_ | refine o_lenL ?_ | refine o_ix0 ?_ | refine o_ix1 ?_ | refine o_ix2 ?_ | refine o_ix0L ?_ | refine o_ix1L ?_ | refine o_ix2L ?_
  | refine s_par ?_ | refine p_yes ?_ | refine p_seq ?_ | refine s_gnil ?_ | refine s_gcons ?_ | refine s_gtux ?_ | refine s_gtupl ?_ | refine p_onone ?_ | refine p_osome ?_ | refine p_get2 ?_ | refine s_putU ?_ | refine p_sortIt ?_)
local macro_rules | `(tactic| walk_at "2") => `(tactic| first
  | walk_at "1"
  | (with_reducible refine p_var2 ?_)
  | ((with_reducible refine s_name ?_ ?_); (· exact Nat.le_of_ble_eq_true rfl); dsimp only [List.set_cons_zero, List.set_cons_succ])
  | (with_reducible refine p_tup ?_) | (with_reducible refine p_lst ?_) | ((with_reducible refine ⟨?_, ?_⟩); (· exact Nat.le_of_ble_eq_true rfl))
  | ((with_reducible refine p_ex2 (x := ?_) (y := ?_) ?_ ?_); rotate_left; rotate_left; (· rfl); refine ⟨?_, ?_, ?_⟩; (· exact Nat.le_of_ble_eq_true rfl); (· exact Nat.le_of_ble_eq_true rfl); dsimp only [List.set_cons_zero, List.set_cons_succ])
  | ((with_reducible refine p_isT ?_ ?_); (· rfl)) | ((with_reducible refine p_isF ?_ ?_); (· rfl))
  | ((with_reducible refine p_ex (x := ?_) ?_ ?_); rotate_left; (· rfl)))
local macro_rules | `(tactic| walk_at "3") => `(tactic| repeat walk_at "2")
open PR
theorem ix_row {S : Sto} {n k : Nat} {f : Nat → D} {Q : D → Sto → Prop} (hk : k < n) (h : Q (f k) S) : (Res.lift (gIx S (.tup ((List.range n).map f)) (.int (k : Int))) S).post Q := by
  refine o_ixT (d := f k) (atI_nat ?_) h
  rw [List.getElem?_map, List.getElem?_range hk]
  rfl
theorem sum_rng {S : Sto} {n : Nat} {f : Nat → Int} {Q : D → Sto → Prop} (h : Q (.int (Sm n f)) S) : (Res.lift (gSum S [.lst ((List.range n).map fun k => D.int (f k))]) S).post Q := by
  rw [show ((List.range n).map fun k => D.int (f k)) = ((List.range n).map f).map .int by rw [List.map_map]; rfl]
  exact o_sumI h
theorem square_times_spec (n : Nat) (hn : n ≤ 6) (A B : Mt) (hF : ∀ i k j, mulFits (A i k) (B k j) = true) (S : Sto) (hS : Sane S) : m_square_times [sqD n A, sqD n B] S = .ok (sqD n (mul n A B)) S := by
  have sl : 16000000 ≤ sizeLine := by decide
  refine m_defJ hS sqD_closed ?_
  show (b_square_times [some (sqD n A), some (sqD n B), none, none, none, none, none, none, none] S).post _ _ _ _
  unfold b_square_times
  walk_at "3"
  with_reducible refine lc_rng (n := n) (f := fun j => D.lst ((List.range n).map fun k => D.int (B k j))) (fun i : Nat => D.int i) ?_ ?_ (fun j hj => ?_) ?_
  · with_reducible refine rng_ok ?_ ?_
    · refine exact_of (p_as (p_cons (p_var rfl (p_nil ?_))))
      show Res.post (.ok (D.int ((((List.range n).map (rowD' n B)).length : Nat) : Int)) S) _
      rw [List.length_map, List.length_range]
      exact ⟨rfl, rfl⟩
    · omega
  · omega
  · refine ⟨_, rfl, ?_⟩
    refine exact_of ?_
    dsimp only [wipeD, List.set_cons_zero, List.set_cons_succ]
    walk_at "3"
    refine lc_rng (n := n) (f := fun k => D.int (B k j)) (fun i => rowD' n B i) (exact_of (p_seq (p_var rfl (.inr (.inl ⟨_, rfl, rfl, rfl⟩))))) (by omega) (fun k hk => ⟨_, rfl, ?_⟩) ?_
    · refine exact_of ?_
      dsimp only [wipeD, List.set_cons_zero, List.set_cons_succ]
      walk_at "3"
      refine ix_row hj ?_
      exact ⟨rfl, rfl⟩
    · walk_at "3"
      exact ⟨rfl, rfl⟩
  walk_at "3"
  refine .inr (.inl ⟨_, rfl, ?_⟩)
  refine s_forT (rowD' n A) (fun xs δ S2 => ∃ (i : Nat) (o4 : Option D), i + xs.length = n ∧ xs = (List.range n).drop i ∧ S2 = S ++ [.lst ((List.range i).map (rowD' n (mul n A B)))] ∧ δ = [some (sqD n A), some (sqD n B), some (.lst ((List.range n).map fun j => D.lst ((List.range n).map fun k => D.int (B k j)))), some (.ptr S.length), o4, none, none, none, none]) ?_ ?_ _ _ _ ⟨0, none, by rw [List.length_range]; omega, rfl, rfl, rfl⟩
  · rintro x xs δ S2 ⟨i, o4, hi, hx, rfl, rfl⟩
    rw [List.length_cons] at hi
    have hin : i < n := by omega
    obtain ⟨rfl, hx⟩ : x = i ∧ xs = (List.range n).drop (i + 1) := by
      rw [List.drop_eq_getElem_cons (by rw [List.length_range]; exact hin), List.getElem_range] at hx
      exact ⟨(List.cons.inj hx).1, (List.cons.inj hx).2⟩
    walk_at "3"
    refine p_append2 rfl get_app ?_
    walk_at "3"
    refine lc_rng (n := n) (f := fun j => D.int (mul n A B x j)) (fun j => D.lst ((List.range n).map fun k => D.int (B k j))) (exact_of (p_seq (p_var rfl (.inl ⟨_, rfl, rfl, rfl⟩)))) (by omega) (fun j hj => ⟨_, rfl, ?_⟩) ?_
    · refine exact_of ?_
      dsimp only [wipeD, List.set_cons_zero, List.set_cons_succ]
      walk_at "3"
      refine lc_rng (n := n) (f := fun k => D.int (A x k * B k j)) (fun k => D.tux [.int (A x k), .int (B k j)]) (exact_of ?_) (by omega) (fun k hk => ⟨_, rfl, ?_⟩) ?_
      · refine p_zipM ?_
        walk_at "3"
        refine ⟨_, _, rfl, ?_⟩
        unfold rowN
        rw [zip_rng]
        exact ⟨rfl, rfl⟩
      · refine exact_of ?_
        dsimp only [wipeD, List.set_cons_zero, List.set_cons_succ]
        walk_at "3"
        refine o_mul (hF _ _ _) ?_
        exact ⟨rfl, rfl⟩
      · walk_at "3"
        refine sum_rng ?_
        exact ⟨rfl, rfl⟩
    walk_at "3"
    refine p_lift (a := rowD' n (mul n A B) x) rfl ?_
    walk_at "3"
    refine ⟨_, get_app, by rw [List.length_map, List.length_range]; omega, ?_⟩
    rw [set_app]
    refine ⟨x + 1, _, by omega, hx, ?_, rfl⟩
    rw [List.range_succ, List.map_append]
    rfl
  · rintro δ S2 ⟨i, o4, hi, hx, rfl, rfl⟩
    have hi : i = n := by simpa using hi
    subst hi
    walk_at "3"
    refine p_lift (a := sqD i (mul i A B)) (by show (match deref (S ++ [D.lst ((List.range i).map (rowD' i (mul i A B)))]) (.ptr S.length) with | .lst xs => some (D.tup xs) | .tup xs => some (D.tup xs) | _ => none) = _; rw [deref_app]; rfl) ?_
    exact ⟨rfl, take_app⟩
theorem len_sq {S : Sto} {n : Nat} {A : Mt} : gLen S [sqD n A] = some (.int (n : Int)) := by
  have e : gLen S [sqD n A] = some (.int ((((List.range n).map (rowD' n A)).length : Nat) : Int)) := rfl
  rw [e, List.length_map, List.length_range]
theorem tup_app {S : Sto} {xs : List D} : gTuple (S ++ [.lst xs]) [.ptr S.length] = some (.tup xs) := by
  unfold gTuple
  dsimp only
  rw [deref_app]
/-- P belongs to A: its numbers by the traces of powers -/
structure Bel (n : Nat) (A : Mt) (P : List Int) : Prop where
  len : P.length = n + 1
  mon : P.drop n = [1]
  nwt : NW (fun k => tr n (pw n A k)) P
theorem nw_drop {p : Nat → Int} : ∀ (k : Nat) {P : List Int}, NW p P → NW p (P.drop k)
  | 0, _, h => h
  | _ + 1, [], h => h
  | k + 1, _ :: P, h => nw_drop k h.2
theorem square_poly_core {q : Mt → D} (n : Nat) (hn : n ≤ 6) {A : Mt} (hc : Cl n A) {P : List Int} (hP : Bel n A P) (hlen : ∀ S A, gLen S [q A] = some (.int (n : Int))) (hone : ∀ c S, Sane S → m_square_one [.int n, .int c] S = .ok (q (smu c (one n))) S)
    (hti : ∀ k S, Sane S → m_square_times [q A, q (evM n A (P.drop k))] S = .ok (q (mul n A (evM n A (P.drop k)))) S) (hsum : ∀ B C S, Sane S → m_square_sum [q B, q C] S = .ok (q (add B C)) S) (hix : ∀ X k S, k < n → ∃ d, gIx S (q X) (.int (k : Int)) = some d ∧ gIx S d (.int (k : Int)) = some (.int (X k k))) (S : Sto) (hS : Sane S) : m_square_poly [q A] S = .ok (.tup (P.map .int)) S := by
  have sl : 16000000 ≤ sizeLine := by decide
  refine m_defJ hS (closed_ints' _) ?_
  show (b_square_poly [some (q A), none, none, none, none, none, none] S).post _ _ _ _
  unfold b_square_poly
  walk_at "3"
  with_reducible refine p_lift (hlen _ _) ?_
  walk_at "3"
  have hS1 : Sane (S ++ [D.lst [.int 1]]) := sane_app hS rfl
  with_reducible refine Res.post.of_eq (hone 1 _ hS1) ?_
  have e1 : smu 1 (one n) = evM n A (P.drop n) := by rw [hP.mon, evM_one]; exact mt_ext fun i j => Int.one_mul _
  rw [e1]
  walk_at "3"
  with_reducible refine p_range2 ?_
  walk_at "3"
  refine ⟨_, _, rfl, by omega, by omega, by omega, by omega, ?_⟩
  have er : rangeD 1 ((n : Int) + 1) = (List.range n).map fun i : Nat => D.int ((i : Int) + 1) := by
    unfold rangeD
    rw [show ((n : Int) + 1 - 1).toNat = n by omega]
    exact List.map_congr_left fun i _ => by rw [Int.add_comm]
  rw [er]
  with_reducible refine s_forT (fun i : Nat => D.int ((i : Int) + 1)) (fun xs δ S2 => ∃ (m : Nat) (o4 o5 : Option D), m + xs.length = n ∧ xs = (List.range n).drop m ∧ S2 = S ++ [.lst ((P.drop (n - m)).map .int)] ∧ δ = [some (q A), some (.int n), some (.ptr S.length), some (q (evM n A (P.drop (n - m)))), o4, o5, none]) ?_ ?_ _ _ _ ?_
  · rintro x xs δ S2 ⟨m, o4, o5, hm, hx, rfl, rfl⟩
    rw [List.length_cons] at hm
    have hmn : m < n := by omega
    have hxx : x = m ∧ xs = (List.range n).drop (m + 1) := by
      rw [List.drop_eq_getElem_cons (by rw [List.length_range]; exact hmn), List.getElem_range] at hx
      exact ⟨(List.cons.inj hx).1, (List.cons.inj hx).2⟩
    have hx := hxx.2
    have exm := hxx.1
    clear hxx
    with_reducible subst exm
    have hlt : n - (x + 1) < P.length := by rw [hP.len]; omega
    have ed : P.drop (n - (x + 1)) = P[n - (x + 1)] :: P.drop (n - x) := by
      rw [List.drop_eq_getElem_cons hlt, show n - (x + 1) + 1 = n - x by omega]
    generalize P[n - (x + 1)] = c at ed
    have hl : (P.drop (n - x)).length = x + 1 := by rw [List.length_drop, hP.len]; omega
    have hnw := nw_drop (n - (x + 1)) hP.nwt
    rw [ed] at hnw
    have h1 := hnw.1
    rw [hl] at h1
    have ht : tr n (mul n A (evM n A (P.drop (n - x)))) = - (((x + 1 : Nat) : Int) * c) := by
      have h2 := tr_evM hc (P.drop (n - x)) 1
      have e : mul n (pw n A 1) (evM n A (P.drop (n - x))) = mul n A (evM n A (P.drop (n - x))) := by
        show mul n (mul n A (one n)) _ = _
        rw [mul_one hc]
      rw [e] at h2
      rw [h2]
      omega
    have hSa : Sane (S ++ [D.lst ((P.drop (n - x)).map .int)]) := sane_app hS (closed_ints' _)
    have hti' := hti (n - x)
    generalize hN : P.drop (n - x) = l at *
    walk_at "3"
    with_reducible refine Res.post.of_eq (hti' _ hSa) ?_
    walk_at "3"
    with_reducible refine lc_var (n := n) (f := fun i => D.int (mul n A (evM n A l) i i)) ?_ ?_ (fun i hi => ?_) ?_
    · rfl
    · omega
    · refine ⟨_, rfl, ?_⟩
      refine exact_of ?_
      dsimp only [wipeD, List.set_cons_zero, List.set_cons_succ]
      obtain ⟨d, d1, d2⟩ := hix (mul n A (evM n A l)) i (S ++ [D.lst (l.map .int)]) hi
      walk_at "3"
      with_reducible refine p_lift d1 ?_
      walk_at "3"
      with_reducible refine p_lift d2 ?_
      exact ⟨rfl, rfl⟩
    walk_at "3"
    refine sum_rng ?_
    walk_at "3"
    rw [show Sm n (fun i => mul n A (evM n A l) i i) = tr n (mul n A (evM n A l)) from rfl, ht]
    refine o_div ⟨by omega, (Nat.log2_lt (by omega)).mpr (Nat.lt_of_lt_of_le (show ((x : Int) + 1).natAbs < 2 ^ 10 by omega) (Nat.pow_le_pow_right (by decide) (by decide)))⟩ ?_
    have ediv : (-(((x + 1 : Nat) : Int) * c)).fdiv ((x : Int) + 1) = -c := by
      rw [Int.fdiv_eq_ediv_of_nonneg _ (by omega), show ((x + 1 : Nat) : Int) = (x : Int) + 1 by omega, show -(((x : Int) + 1) * c) = ((x : Int) + 1) * -c by grind]
      exact Int.mul_ediv_cancel_left _ (by omega)
    rw [ediv]
    walk_at "3"
    rw [show (0 : Int) - -c = c by omega]
    refine p_meth ?_
    walk_at "3"
    refine ⟨by unfold isTy; rw [deref_app]; rfl, ?_⟩
    walk_at "3"
    refine ⟨.non, S ++ [.lst ((c :: l).map .int)], ?_, ?_⟩
    · unfold mInsert
      dsimp only
      rw [get_app]
      dsimp only
      rw [if_pos ⟨by rw [List.length_map, hl]; omega, by decide, by decide⟩, set_app]
      rfl
    have hSb : Sane (S ++ [D.lst ((c :: l).map .int)]) := sane_app hS (closed_ints' _)
    walk_at "3"
    with_reducible refine Res.post.of_eq (hone c _ hSb) ?_
    walk_at "3"
    with_reducible refine Res.post.of_eq (hsum _ _ _ hSb) ?_
    walk_at "3"
    have e2 : add (mul n A (evM n A l)) (smu c (one n)) = evM n A (c :: l) := mt_ext fun i j => Int.add_comm _ _
    rw [e2]
    exact ⟨x + 1, _, _, by omega, hx, by rw [ed], by rw [ed]⟩
  · rintro δ S2 ⟨m, o4, o5, hm, hx, rfl, rfl⟩
    have hm : m = n := by simpa using hm
    subst hm
    rw [Nat.sub_self, List.drop_zero]
    walk_at "3"
    with_reducible refine p_lift tup_app ?_
    exact ⟨rfl, take_app⟩
  · exact ⟨0, none, none, by rw [List.length_range]; omega, rfl, by rw [Nat.sub_zero, hP.mon]; rfl, by rw [Nat.sub_zero]⟩
theorem square_poly_spec (n : Nat) (hn : n ≤ 6) {A : Mt} (hc : Cl n A) {P : List Int} (hF : ∀ k i j m, mulFits (A i j) (evM n A (P.drop k) j m) = true) (hP : Bel n A P) (S : Sto) (hS : Sane S) : m_square_poly [sqD n A] S = .ok (.tup (P.map .int)) S :=
  square_poly_core (q := sqD n) n hn hc hP (fun _ _ => len_sq) (fun c S hS => square_one_spec n hn c S hS) (fun k S hS => square_times_spec n hn A _ (fun i j m => hF k i j m) S hS) (fun B C S hS => square_sum_spec n hn B C S hS)
    (fun X k S hk => ⟨rowD' n X k, by
      show atI ((List.range n).map (rowD' n X)) (k : Int) = _
      refine atI_nat ?_
      rw [List.getElem?_map, List.getElem?_range hk]; rfl, by
      show atI (rowN n (X k)) (k : Int) = _
      refine atI_nat ?_
      unfold rowN
      rw [List.getElem?_map, List.getElem?_range hk]; rfl⟩) S hS
end DL
set_option Elab.async false
set_option linter.all false
set_option maxRecDepth 100000
set_option maxHeartbeats 4000000
set_option autoImplicit false
/-! k31: all_roots. -/
namespace DL
open PySem L2
open Emb
local macro_rules | `(tactic| walk_at "1") => `(tactic| with_reducible first
  | refine s_seq ?_ | refine s_asg ?_ | refine s_ret ?_ | refine s_if ?_ | refine s_expr ?_ | refine s_next ?_ | refine s_brk ?_ | refine s_cont ?_ | refine s_for ?_ | refine s_while ?_
  | refine p_c ?_ | refine p_bin ?_ | refine p_as ?_ | refine p_cons ?_ | refine p_nil ?_ | refine p_un ?_ | refine p_call ?_ | refine p_if ?_ | refine p_own ?_
  | refine p_keep ?_ | refine p_tru ?_ | refine p_and ?_ | refine p_or ?_ | refine p_not ?_ | refine p_val ?_ | refine p_rand ?_ | refine p_ror ?_ | refine p_rnot ?_ | refine p_chain ?_ | refine p_bif ?_
  | refine o_add ?_ | refine o_sub ?_ | refine o_ltU ?_ | refine o_leU ?_ | refine o_gtU ?_ | refine o_geU ?_ | refine o_neg ?_ | refine o_eqI ?_ | refine o_neI ?_ | refine o_abs ?_ | refine o_tru ?_ | refine p_true ?_ | refine p_false ?_
  | refine o_lenT ?_ | refine o_lenL ?_ | refine o_ix0 ?_ | refine o_ix1 ?_ | refine o_ix2 ?_ | refine o_ix0L ?_ | refine o_ix1L ?_ | refine o_ix2L ?_
  | refine s_par ?_ | refine p_yes ?_ | refine p_seq ?_ | refine s_gnil ?_ | refine s_gcons ?_ | refine s_gtux ?_ | refine s_gtupl ?_ | refine p_onone ?_ | refine p_osome ?_ | refine p_get2 ?_ | refine s_putU ?_ | refine p_sortIt ?_)
local macro_rules | `(tactic| walk_at "2") => `(tactic| first
  | walk_at "1"
  | (with_reducible refine p_var2 ?_)
  | ((with_reducible refine s_name ?_ ?_); (· exact Nat.le_of_ble_eq_true rfl); dsimp only [List.set_cons_zero, List.set_cons_succ])
  | (with_reducible refine p_tup ?_) | (with_reducible refine p_lst ?_) | ((with_reducible refine ⟨?_, ?_⟩); (· exact Nat.le_of_ble_eq_true rfl))
  | ((with_reducible refine p_ex2 (x := ?_) (y := ?_) ?_ ?_); rotate_left; rotate_left; (· rfl); refine ⟨?_, ?_, ?_⟩; (· exact Nat.le_of_ble_eq_true rfl); (· exact Nat.le_of_ble_eq_true rfl); dsimp only [List.set_cons_zero, List.set_cons_succ])
  | ((with_reducible refine p_isT ?_ ?_); (· rfl)) | ((with_reducible refine p_isF ?_ ?_); (· rfl))
  | ((with_reducible refine p_ex (x := ?_) ?_ ?_); rotate_left; (· rfl)))
local macro_rules | `(tactic| walk_at "3") => `(tactic| repeat walk_at "2")
open PR
end DL
set_option Elab.async false
set_option linter.all false
set_option maxRecDepth 100000
set_option maxHeartbeats 4000000
set_option autoImplicit false
/-! k31: a square seen by other boxes is like it. -/
namespace DL
namespace PR
def el (n t a : Nat) (o : Int) : Mt := fun i j => one n i j + if i = t ∧ j = a then o else 0
end PR
end DL
set_option Elab.async false
set_option linter.all false
set_option maxRecDepth 100000
set_option maxHeartbeats 4000000
set_option autoImplicit false
/-! k31: rows of the store; a square seen by other boxes, walked. -/
namespace DL
open PySem L2
open Emb
local macro_rules | `(tactic| walk_at "1") => `(tactic| with_reducible first
  | refine s_seq ?_ | refine s_asg ?_ | refine s_ret ?_ | refine s_if ?_ | refine s_expr ?_ | refine s_next ?_ | refine s_brk ?_ | refine s_cont ?_ | refine s_for ?_ | refine s_while ?_
  | refine p_c ?_ | refine p_bin ?_ | refine p_as ?_ | refine p_cons ?_ | refine p_nil ?_ | refine p_un ?_ | refine p_call ?_ | refine p_if ?_ | refine p_own ?_
  | refine p_keep ?_ | refine p_tru ?_ | refine p_and ?_ | refine p_or ?_ | refine p_not ?_ | refine p_val ?_ | refine p_rand ?_ | refine p_ror ?_ | refine p_rnot ?_ | refine p_chain ?_ | refine p_bif ?_
  | refine o_add ?_ | refine o_sub ?_ | refine o_ltU ?_ | refine o_leU ?_ | refine o_gtU ?_ | refine o_geU ?_ | refine o_neg ?_ | refine o_eqI ?_ | refine o_neI ?_ | refine o_abs ?_ | refine o_tru ?_ | refine p_true ?_ | refine p_false ?_
  | refine o_lenT ?_ | refine o_lenL ?_ | refine o_ix0 ?_ | refine o_ix1 ?_ | refine o_ix2 ?_ | refine o_ix0L ?_ | refine o_ix1L ?_ | refine o_ix2L ?_
  | refine s_par ?_ | refine p_yes ?_ | refine p_seq ?_ | refine s_gnil ?_ | refine s_gcons ?_ | refine s_gtux ?_ | refine s_gtupl ?_ | refine p_onone ?_ | refine p_osome ?_ | refine p_get2 ?_ | refine s_putU ?_ | refine p_sortIt ?_)
local macro_rules | `(tactic| walk_at "2") => `(tactic| first
  | walk_at "1"
  | (with_reducible refine p_var2 ?_)
  | ((with_reducible refine s_name ?_ ?_); (· exact Nat.le_of_ble_eq_true rfl); dsimp only [List.set_cons_zero, List.set_cons_succ])
  | (with_reducible refine p_tup ?_) | (with_reducible refine p_lst ?_) | ((with_reducible refine ⟨?_, ?_⟩); (· exact Nat.le_of_ble_eq_true rfl))
  | ((with_reducible refine p_ex2 (x := ?_) (y := ?_) ?_ ?_); rotate_left; rotate_left; (· rfl); refine ⟨?_, ?_, ?_⟩; (· exact Nat.le_of_ble_eq_true rfl); (· exact Nat.le_of_ble_eq_true rfl); dsimp only [List.set_cons_zero, List.set_cons_succ])
  | ((with_reducible refine p_isT ?_ ?_); (· rfl)) | ((with_reducible refine p_isF ?_ ?_); (· rfl))
  | ((with_reducible refine p_ex (x := ?_) ?_ ?_); rotate_left; (· rfl)))
local macro_rules | `(tactic| walk_at "3") => `(tactic| repeat walk_at "2")
open PR
end DL
set_option Elab.async false
set_option linter.all false
set_option maxRecDepth 100000
set_option maxHeartbeats 4000000
set_option autoImplicit false
/-! k31: _law_turned. -/
namespace DL
open PySem L2
open Emb
local macro_rules | `(tactic| walk_at "1") => `(tactic| with_reducible first
  | refine s_seq ?_ | refine s_asg ?_ | refine s_ret ?_ | refine s_if ?_ | refine s_expr ?_ | refine s_next ?_ | refine s_brk ?_ | refine s_cont ?_ | refine s_for ?_ | refine s_while ?_
  | refine p_c ?_ | refine p_bin ?_ | refine p_as ?_ | refine p_cons ?_ | refine p_nil ?_ | refine p_un ?_ | refine p_call ?_ | refine p_if ?_ | refine p_own ?_
  | refine p_keep ?_ | refine p_tru ?_ | refine p_and ?_ | refine p_or ?_ | refine p_not ?_ | refine p_val ?_ | refine p_rand ?_ | refine p_ror ?_ | refine p_rnot ?_ | refine p_chain ?_ | refine p_bif ?_
  | refine o_add ?_ | refine o_sub ?_ | refine o_ltU ?_ | refine o_leU ?_ | refine o_gtU ?_ | refine o_geU ?_ | refine o_neg ?_ | refine o_eqI ?_ | refine o_neI ?_ | refine o_abs ?_ | refine o_tru ?_ | refine p_true ?_ | refine p_false ?_
  | refine o_lenT ?_ | refine o_lenL ?_ | refine o_ix0 ?_ | refine o_ix1 ?_ | refine o_ix2 ?_ | refine o_ix0L ?_ | refine o_ix1L ?_ | refine o_ix2L ?_
  | refine s_par ?_ | refine p_yes ?_ | refine p_seq ?_ | refine s_gnil ?_ | refine s_gcons ?_ | refine s_gtux ?_ | refine s_gtupl ?_ | refine p_onone ?_ | refine p_osome ?_ | refine p_get2 ?_ | refine s_putU ?_ | refine p_sortIt ?_)
local macro_rules | `(tactic| walk_at "2") => `(tactic| first
  | walk_at "1"
  | (with_reducible refine p_var2 ?_)
  | ((with_reducible refine s_name ?_ ?_); (· exact Nat.le_of_ble_eq_true rfl); dsimp only [List.set_cons_zero, List.set_cons_succ])
  | (with_reducible refine p_tup ?_) | (with_reducible refine p_lst ?_) | ((with_reducible refine ⟨?_, ?_⟩); (· exact Nat.le_of_ble_eq_true rfl))
  | ((with_reducible refine p_ex2 (x := ?_) (y := ?_) ?_ ?_); rotate_left; rotate_left; (· rfl); refine ⟨?_, ?_, ?_⟩; (· exact Nat.le_of_ble_eq_true rfl); (· exact Nat.le_of_ble_eq_true rfl); dsimp only [List.set_cons_zero, List.set_cons_succ])
  | ((with_reducible refine p_isT ?_ ?_); (· rfl)) | ((with_reducible refine p_isF ?_ ?_); (· rfl))
  | ((with_reducible refine p_ex (x := ?_) ?_ ?_); rotate_left; (· rfl)))
local macro_rules | `(tactic| walk_at "3") => `(tactic| repeat walk_at "2")
open PR
end DL
set_option Elab.async false
set_option linter.all false
set_option maxRecDepth 100000
set_option maxHeartbeats 4000000
set_option autoImplicit false
/-! k31: the law's own product and power. -/
namespace DL
open PySem L2
open Emb
local macro_rules | `(tactic| walk_at "1") => `(tactic| with_reducible first
  | refine s_seq ?_ | refine s_asg ?_ | refine s_ret ?_ | refine s_if ?_ | refine s_expr ?_ | refine s_next ?_ | refine s_brk ?_ | refine s_cont ?_ | refine s_for ?_ | refine s_while ?_
  | refine p_c ?_ | refine p_bin ?_ | refine p_as ?_ | refine p_cons ?_ | refine p_nil ?_ | refine p_un ?_ | refine p_call ?_ | refine p_if ?_ | refine p_own ?_
  | refine p_keep ?_ | refine p_tru ?_ | refine p_and ?_ | refine p_or ?_ | refine p_not ?_ | refine p_val ?_ | refine p_rand ?_ | refine p_ror ?_ | refine p_rnot ?_ | refine p_chain ?_ | refine p_bif ?_
  | refine o_add ?_ | refine o_sub ?_ | refine o_ltU ?_ | refine o_leU ?_ | refine o_gtU ?_ | refine o_geU ?_ | refine o_neg ?_ | refine o_eqI ?_ | refine o_neI ?_ | refine o_abs ?_ | refine o_tru ?_ | refine p_true ?_ | refine p_false ?_
  | refine o_lenT ?_ | refine o_lenL ?_ | refine o_ix0 ?_ | refine o_ix1 ?_ | refine o_ix2 ?_ | refine o_ix0L ?_ | refine o_ix1L ?_ | refine o_ix2L ?_
  | refine s_par ?_ | refine p_yes ?_ | refine p_seq ?_ | refine s_gnil ?_ | refine s_gcons ?_ | refine s_gtux ?_ | refine s_gtupl ?_ | refine p_onone ?_ | refine p_osome ?_ | refine p_get2 ?_ | refine s_putU ?_ | refine p_sortIt ?_)
local macro_rules | `(tactic| walk_at "2") => `(tactic| first
  | walk_at "1"
  | (with_reducible refine p_var2 ?_)
  | ((with_reducible refine s_name ?_ ?_); (· exact Nat.le_of_ble_eq_true rfl); dsimp only [List.set_cons_zero, List.set_cons_succ])
  | (with_reducible refine p_tup ?_) | (with_reducible refine p_lst ?_) | ((with_reducible refine ⟨?_, ?_⟩); (· exact Nat.le_of_ble_eq_true rfl))
  | ((with_reducible refine p_ex2 (x := ?_) (y := ?_) ?_ ?_); rotate_left; rotate_left; (· rfl); refine ⟨?_, ?_, ?_⟩; (· exact Nat.le_of_ble_eq_true rfl); (· exact Nat.le_of_ble_eq_true rfl); dsimp only [List.set_cons_zero, List.set_cons_succ])
  | ((with_reducible refine p_isT ?_ ?_); (· rfl)) | ((with_reducible refine p_isF ?_ ?_); (· rfl))
  | ((with_reducible refine p_ex (x := ?_) ?_ ?_); rotate_left; (· rfl)))
local macro_rules | `(tactic| walk_at "3") => `(tactic| repeat walk_at "2")
theorem p_listR {a : RE} {δ : Sl} {S : Sto} {Q : D → Sto → Prop} (h : (a δ S).post fun d S1 => ∃ j : Int, d = .int j ∧ (0 ≤ j ∧ j ≤ 16777216) ∧ Q (.lst (rangeD 0 j)) S1) : (rListR a δ S).post Q :=
  p_bind (h.mono fun d S1 ⟨j, e, h1, q⟩ => by
    subst e
    dsimp only
    rw [if_pos h1]
    exact q)
open PR
def sideD (n : Nat) : D := .lst ((List.range n).map fun i : Nat => D.int (i : Int))
theorem seq_side {i n : Nat} {δ : Sl} {S : Sto} (h : δ[i]? = some (some (sideD n))) : rSeq (rVar i) δ S = .ok ((List.range n).map fun i : Nat => D.int (i : Int)) S := exact_of (p_seq (p_var h (.inl ⟨_, rfl, rfl, rfl⟩)))
theorem ix_sq {S : Sto} {n k : Nat} {A : Mt} {Q : D → Sto → Prop} (hk : k < n) (h : Q (rowD' n A k) S) : (Res.lift (gIx S (sqD n A) (.int (k : Int))) S).post Q := ix_row hk h
theorem ix_rw {S : Sto} {n k j : Nat} {A : Mt} {Q : D → Sto → Prop} (hj : j < n) (h : Q (.int (A k j)) S) : (Res.lift (gIx S (rowD' n A k) (.int (j : Int))) S).post Q := ix_row (f := fun j => D.int (A k j)) hj h
theorem lproduct_spec (n : Nat) (hn : n ≤ 6) (A B : Mt) (hF : ∀ i k j, mulFits (A i k) (B k j) = true) (S : Sto) (hS : Sane S) : m__law_product [sqD n A, sqD n B] S = .ok (sqD n (mul n A B)) S := by
  have sl : 16000000 ≤ sizeLine := by decide
  refine m_defJ hS sqD_closed ?_
  show (b__law_product [some (sqD n A), some (sqD n B), none, none, none, none, none] S).post _ _ _ _
  unfold b__law_product
  walk_at "3"
  with_reducible refine p_listR ?_
  walk_at "3"
  with_reducible refine p_lift len_sq ?_
  refine ⟨(n : Int), rfl, ⟨by omega, by omega⟩, ?_⟩
  rw [rangeD_nat]
  refine ⟨_, rfl, ?_⟩
  rw [show D.lst ((List.range n).map fun i : Nat => D.int (i : Int)) = sideD n from rfl]
  walk_at "3"
  refine .inr (.inl ⟨(List.range n).map (rowD' n A), rfl, ?_⟩)
  with_reducible refine s_forT (rowD' n A) (fun xs δ S2 => ∃ (i : Nat) (o4 : Option D), i + xs.length = n ∧ xs = (List.range n).drop i ∧ S2 = S ++ [.lst ((List.range i).map (rowD' n (mul n A B)))] ∧ δ = [some (sqD n A), some (sqD n B), some (sideD n), some (.ptr S.length), o4, none, none]) ?_ ?_ _ _ _ ?_
  · rintro x xs δ S2 ⟨i, o4, hi, hx, e1, e2⟩
    subst e1 e2
    rw [List.length_cons] at hi
    have hin : i < n := by omega
    have hxx : x = i ∧ xs = (List.range n).drop (i + 1) := by
      rw [List.drop_eq_getElem_cons (by rw [List.length_range]; exact hin), List.getElem_range] at hx
      exact ⟨(List.cons.inj hx).1, (List.cons.inj hx).2⟩
    have hx := hxx.2
    have exk := hxx.1
    subst exk
    refine Res.post.of_eq (show gName 4 (rowD' n A x) _ _ = .ok _ _ from rfl) ?_
    refine s_expr ?_
    refine p_append2 rfl get_app ?_
    walk_at "3"
    with_reducible refine lc_rng (n := n) (f := fun j => D.int (mul n A B x j)) (fun i : Nat => D.int (i : Int)) ?_ ?_ ?_ ?_
    · exact seq_side rfl
    · omega
    · intro j hj
      refine ⟨_, rfl, exact_of ?_⟩
      dsimp only [wipeD, List.set_cons_zero, List.set_cons_succ]
      walk_at "3"
      with_reducible refine lc_rng (n := n) (f := fun k => D.int (A x k * B k j)) (fun i : Nat => D.int (i : Int)) ?_ ?_ ?_ ?_
      · exact seq_side rfl
      · omega
      · intro k hk
        refine ⟨_, rfl, exact_of ?_⟩
        dsimp only [wipeD, List.set_cons_zero, List.set_cons_succ]
        walk_at "3"
        refine ix_rw hk ?_
        walk_at "3"
        refine ix_sq hk ?_
        walk_at "3"
        refine ix_rw hj ?_
        walk_at "3"
        refine o_mul (hF _ _ _) ?_
        exact ⟨rfl, rfl⟩
      · walk_at "3"
        refine sum_rng ?_
        exact ⟨rfl, rfl⟩
    walk_at "3"
    refine p_lift (a := rowD' n (mul n A B) x) rfl ?_
    walk_at "3"
    refine ⟨_, get_app, by rw [List.length_map, List.length_range]; omega, ?_⟩
    rw [set_app]
    refine ⟨x + 1, _, by omega, hx, ?_, rfl⟩
    rw [List.range_succ, List.map_append]
    rfl
  · rintro δ S2 ⟨i, o4, hi, hx, e1, e2⟩
    subst e1 e2
    have hi : i = n := by simpa using hi
    subst hi
    walk_at "3"
    with_reducible refine p_lift tup_app ?_
    exact ⟨rfl, take_app⟩
  · exact ⟨0, none, by rw [List.length_range]; omega, rfl, rfl, rfl⟩
end DL
set_option Elab.async false
set_option linter.all false
set_option maxRecDepth 100000
set_option maxHeartbeats 4000000
set_option autoImplicit false
/-! k31: the poly that belongs to a square like a block triangular one. -/
set_option Elab.async false
set_option linter.all false
set_option maxRecDepth 100000
set_option maxHeartbeats 4000000
set_option autoImplicit false
/-! k31: _law_is_nought. -/
namespace DL
open PySem L2
open Emb
local macro_rules | `(tactic| walk_at "1") => `(tactic| with_reducible first
  | refine s_seq ?_ | refine s_asg ?_ | refine s_ret ?_ | refine s_if ?_ | refine s_expr ?_ | refine s_next ?_ | refine s_brk ?_ | refine s_cont ?_ | refine s_for ?_ | refine s_while ?_
  | refine p_c ?_ | refine p_bin ?_ | refine p_as ?_ | refine p_cons ?_ | refine p_nil ?_ | refine p_un ?_ | refine p_call ?_ | refine p_if ?_ | refine p_own ?_
  | refine p_keep ?_ | refine p_tru ?_ | refine p_and ?_ | refine p_or ?_ | refine p_not ?_ | refine p_val ?_ | refine p_rand ?_ | refine p_ror ?_ | refine p_rnot ?_ | refine p_chain ?_ | refine p_bif ?_
  | refine o_add ?_ | refine o_sub ?_ | refine o_ltU ?_ | refine o_leU ?_ | refine o_gtU ?_ | refine o_geU ?_ | refine o_neg ?_ | refine o_eqI ?_ | refine o_neI ?_ | refine o_abs ?_ | refine o_tru ?_ | refine p_true ?_ | refine p_false ?_
  | refine o_lenT ?_ | refine o_lenL ?_ | refine o_ix0 ?_ | refine o_ix1 ?_ | refine o_ix2 ?_ | refine o_ix0L ?_ | refine o_ix1L ?_ | refine o_ix2L ?_
  | refine s_par ?_ | refine p_yes ?_ | refine p_seq ?_ | refine s_gnil ?_ | refine s_gcons ?_ | refine s_gtux ?_ | refine s_gtupl ?_ | refine p_onone ?_ | refine p_osome ?_ | refine p_get2 ?_ | refine s_putU ?_ | refine p_sortIt ?_)
local macro_rules | `(tactic| walk_at "2") => `(tactic| first
  | walk_at "1"
  | (with_reducible refine p_var2 ?_)
  | ((with_reducible refine s_name ?_ ?_); (· exact Nat.le_of_ble_eq_true rfl); dsimp only [List.set_cons_zero, List.set_cons_succ])
  | (with_reducible refine p_tup ?_) | (with_reducible refine p_lst ?_) | ((with_reducible refine ⟨?_, ?_⟩); (· exact Nat.le_of_ble_eq_true rfl))
  | ((with_reducible refine p_ex2 (x := ?_) (y := ?_) ?_ ?_); rotate_left; rotate_left; (· rfl); refine ⟨?_, ?_, ?_⟩; (· exact Nat.le_of_ble_eq_true rfl); (· exact Nat.le_of_ble_eq_true rfl); dsimp only [List.set_cons_zero, List.set_cons_succ])
  | ((with_reducible refine p_isT ?_ ?_); (· rfl)) | ((with_reducible refine p_isF ?_ ?_); (· rfl))
  | ((with_reducible refine p_ex (x := ?_) ?_ ?_); rotate_left; (· rfl)))
local macro_rules | `(tactic| walk_at "3") => `(tactic| repeat walk_at "2")
open PR
theorem toPys_map {S : Sto} {f : Nat → D} {g : Nat → PyData} : ∀ {l : List Nat}, (∀ i ∈ l, toPy S (f i) = some (g i)) → toPys S (l.map f) = some (l.map g)
  | [], _ => rfl
  | i :: l, h => by
    rw [List.map_cons]
    unfold toPys
    rw [h i List.mem_cons_self, toPys_map fun k hk => h k (List.mem_cons_of_mem _ hk)]
    rfl
end DL
set_option Elab.async false
set_option linter.all false
set_option maxRecDepth 100000
set_option maxHeartbeats 4000000
set_option autoImplicit false
/-! k30: the law's draws. -/
namespace DL
open PySem L2
open Emb
local macro_rules | `(tactic| walk_at "1") => `(tactic| with_reducible first
  | refine s_seq ?_ | refine s_asg ?_ | refine s_ret ?_ | refine s_if ?_ | refine s_expr ?_ | refine s_next ?_ | refine s_brk ?_ | refine s_cont ?_ | refine s_for ?_ | refine s_while ?_
  | refine p_c ?_ | refine p_bin ?_ | refine p_as ?_ | refine p_cons ?_ | refine p_nil ?_ | refine p_un ?_ | refine p_call ?_ | refine p_if ?_ | refine p_own ?_
  | refine p_keep ?_ | refine p_tru ?_ | refine p_and ?_ | refine p_or ?_ | refine p_not ?_ | refine p_val ?_ | refine p_rand ?_ | refine p_ror ?_ | refine p_rnot ?_ | refine p_chain ?_ | refine p_bif ?_
  | refine o_add ?_ | refine o_sub ?_ | refine o_ltU ?_ | refine o_leU ?_ | refine o_gtU ?_ | refine o_geU ?_ | refine o_neg ?_ | refine o_eqI ?_ | refine o_neI ?_ | refine o_abs ?_ | refine o_tru ?_ | refine p_true ?_ | refine p_false ?_
  | refine o_lenT ?_ | refine o_lenL ?_ | refine o_ix0 ?_ | refine o_ix1 ?_ | refine o_ix2 ?_ | refine o_ix0L ?_ | refine o_ix1L ?_ | refine o_ix2L ?_
  | refine s_par ?_ | refine p_yes ?_ | refine p_seq ?_ | refine s_gnil ?_ | refine s_gcons ?_ | refine s_gtux ?_ | refine s_gtupl ?_ | refine p_onone ?_ | refine p_osome ?_ | refine p_get2 ?_ | refine s_putU ?_ | refine p_sortIt ?_)
local macro_rules | `(tactic| walk_at "2") => `(tactic| first
  | walk_at "1"
  | (with_reducible refine p_var2 ?_)
  | ((with_reducible refine s_name ?_ ?_); (· exact Nat.le_of_ble_eq_true rfl); dsimp only [List.set_cons_zero, List.set_cons_succ])
  | (with_reducible refine p_tup ?_) | (with_reducible refine p_lst ?_) | ((with_reducible refine ⟨?_, ?_⟩); (· exact Nat.le_of_ble_eq_true rfl))
  | ((with_reducible refine p_ex2 (x := ?_) (y := ?_) ?_ ?_); rotate_left; rotate_left; (· rfl); refine ⟨?_, ?_, ?_⟩; (· exact Nat.le_of_ble_eq_true rfl); (· exact Nat.le_of_ble_eq_true rfl); dsimp only [List.set_cons_zero, List.set_cons_succ])
  | ((with_reducible refine p_isT ?_ ?_); (· rfl)) | ((with_reducible refine p_isF ?_ ?_); (· rfl))
  | ((with_reducible refine p_ex (x := ?_) ?_ ?_); rotate_left; (· rfl)))
local macro_rules | `(tactic| walk_at "3") => `(tactic| repeat walk_at "2")
open PR
theorem fmod_b (a : Int) {m : Int} (h : 0 < m) : 0 ≤ a.fmod m ∧ a.fmod m < m := by
  rw [Int.fmod_eq_emod_of_nonneg _ (by omega)]
  exact ⟨Int.emod_nonneg _ (by omega), Int.emod_lt_of_pos _ h⟩
theorem lmixed_spec (c k : Int) (hk : k.natAbs < 2 ^ 40) (S : Sto) (hS : Sane S) : (m__law_mixed [.int c, .int k] S).post fun d S' => (∃ i : Int, d = .int i ∧ 0 ≤ i ∧ i < 2 ^ 31) ∧ S' = S := by
  refine m_defQ hS (fun d ⟨c, e, _⟩ => by subst e; rfl) ?_
  show (b__law_mixed [some (.int c), some (.int k), none] S).post _ _ _ _
  unfold b__law_mixed
  walk_at "3"
  refine o_mod (by decide) ?_
  obtain ⟨a1, a2⟩ := fmod_b c (m := 1000000007) (by decide)
  walk_at "3"
  refine o_mul (fits_l (by decide)) ?_
  walk_at "3"
  refine o_mul (fits_r (by decide)) ?_
  walk_at "3"
  refine o_mod (by decide) ?_
  generalize hv : (Int.fmod _ 2147483647 : Int) = v
  have v0 : 0 ≤ v ∧ v < 2147483647 := by rw [← hv]; exact fmod_b _ (by decide)
  walk_at "3"
  refine o_mul (fits_l (by omega)) ?_
  walk_at "3"
  refine o_mod (by decide) ?_
  generalize hw : (Int.fmod _ 2147483629 : Int) = w
  have w0 : 0 ≤ w ∧ w < 2147483629 := by rw [← hw]; exact fmod_b _ (by decide)
  walk_at "3"
  refine o_div ⟨by decide, by decide⟩ ?_
  rw [Int.fdiv_eq_ediv_of_nonneg _ (by decide)]
  exact ⟨⟨_, rfl, by omega, by omega⟩, rfl⟩
/-- what is drawn by -/
def drw (r m : Int) : D := .dct [(.str "rest", .int r), (.str "mixed", .int m)]
def Dr (S : Sto) (j : Nat) : Prop := ∃ r m : Int, S[j]? = some (drw r m) ∧ 0 ≤ r
def Mv (j : Nat) (S S' : Sto) : Prop := ∃ r m : Int, 0 ≤ r ∧ S' = S.set j (drw r m)
theorem drw_closed (n : Nat) (r m : Int) : D.closed n (drw r m) = true := rfl
theorem Mv.sane {j : Nat} {S S' : Sto} (h : Mv j S S') (hS : Sane S) : Sane S' := by
  obtain ⟨r, m, _, rfl⟩ := h
  exact sane_set hS (drw_closed _ _ _)
theorem Mv.len {j : Nat} {S S' : Sto} (h : Mv j S S') : S'.length = S.length := by
  obtain ⟨r, m, _, rfl⟩ := h
  exact List.length_set
theorem Mv.dr {j : Nat} {S S' : Sto} (h : Mv j S S') (hd : Dr S j) : Dr S' j := by
  obtain ⟨r, m, hr, rfl⟩ := h
  obtain ⟨r0, m0, e, _⟩ := hd
  have hlt := (List.getElem?_eq_some_iff.mp e).1
  exact ⟨r, m, by rw [List.getElem?_set_self hlt], hr⟩
theorem Mv.trans {j : Nat} {S S1 S2 : Sto} (h : Mv j S S1) (g : Mv j S1 S2) : Mv j S S2 := by
  obtain ⟨r, m, _, rfl⟩ := h
  obtain ⟨r2, m2, hr2, rfl⟩ := g
  exact ⟨r2, m2, hr2, List.set_set _⟩
theorem Mv.refl {j : Nat} {S : Sto} (h : Dr S j) : Mv j S S := by
  obtain ⟨r, m, e, hr⟩ := h
  have q := unset (x := drw r m) e
  rw [List.set_set] at q
  exact ⟨r, m, hr, q.symm⟩
theorem Mv.at {j k : Nat} {S S' : Sto} (h : Mv j S S') (hk : k ≠ j) : S'[k]? = S[k]? := by
  obtain ⟨r, m, _, rfl⟩ := h
  exact List.getElem?_set_ne (by omega)
theorem m_defM {n j : Nat} {b : RS} {ds : List D} {S : Sto} {P : D → Prop} (hS : Sane S) (hP : ∀ z, P z → D.closed S.length z = true) (h : (b (ds.map some ++ List.replicate (n - ds.length) none) S).post NoS (fun z S1 => P z ∧ Mv j S S1) NoS NoS) : (mDef n b ds S).post fun z S' => P z ∧ Mv j S S' :=
  m_def (h.mono (fun _ _ z => z.elim) (fun z S1 ⟨hp, hm⟩ => by
    have e : S1.take S.length = S1 := List.take_of_length_le (by rw [hm.len]; exact Nat.le_refl _)
    rw [e]
    refine ⟨?_, hp, hm⟩
    rw [hP z hp]
    have := hm.sane hS
    unfold Sane at this
    rw [hm.len] at this
    rw [this]; rfl) (fun _ _ z => z.elim) (fun _ _ z => z.elim))
def Num (lo hi : Int) (z : D) : Prop := ∃ i : Int, z = .int i ∧ lo ≤ i ∧ i < hi
theorem num_closed {lo hi : Int} {n : Nat} {z : D} (h : Num lo hi z) : D.closed n z = true := by obtain ⟨i, rfl, _⟩ := h; rfl
theorem o_rest {S : Sto} {j : Nat} {r m : Int} {Q : D → Sto → Prop} (hj : S[j]? = some (drw r m)) (h : Q (.int r) S) : (Res.lift (gGetU S (.ptr j) (.str "rest")) S).post Q := o_getU hj rfl rfl h
theorem o_mixed {S : Sto} {j : Nat} {r m : Int} {Q : D → Sto → Prop} (hj : S[j]? = some (drw r m)) (h : Q (.int m) S) : (Res.lift (gGetU S (.ptr j) (.str "mixed")) S).post Q := o_getU hj rfl rfl h
theorem lnext_spec {j : Nat} {b : Int} (hb : 0 < b) (hb2 : b < 2 ^ 40) (S : Sto) (hS : Sane S) (hj : Dr S j) : (m__law_next [.ptr j, .int b] S).post fun z S' => Num 0 b z ∧ Mv j S S' := by
  refine m_defM hS (fun z => num_closed) ?_
  show (b__law_next [some (.ptr j), some (.int b), none] S).post _ _ _ _
  unfold b__law_next
  obtain ⟨r, m, hj, hr⟩ := hj
  have hlt := (List.getElem?_eq_some_iff.mp hj).1
  have bl : b.natAbs.log2 < 9000 := (Nat.log2_lt (by omega)).mpr (Nat.lt_of_lt_of_le (show b.natAbs < 2 ^ 40 by omega) (Nat.pow_le_pow_right (by decide) (by decide)))
  walk_at "3"
  refine o_rest hj ?_
  walk_at "3"
  refine ⟨fun k => ?_, fun k => ?_⟩
  · have k : 0 < r := of_decide_eq_true k
    walk_at "3"
    refine o_rest hj ?_
    walk_at "3"
    refine o_mod (by omega) ?_
    walk_at "3"
    refine o_rest hj ?_
    walk_at "3"
    refine o_div ⟨by omega, bl⟩ ?_
    walk_at "3"
    refine ⟨j, _, drw (r.fdiv b) m, rfl, hj, rfl, ?_⟩
    walk_at "3"
    obtain ⟨h1, h2⟩ := fmod_b r hb
    exact ⟨⟨_, rfl, h1, h2⟩, r.fdiv b, m, by rw [Int.fdiv_eq_ediv_of_nonneg _ (by omega)]; exact Int.ediv_nonneg hr (by omega), rfl⟩
  · walk_at "3"
    refine o_mixed hj ?_
    walk_at "3"
    refine (lmixed_spec _ b (by omega) S hS).mono ?_
    rintro d S1 ⟨⟨i, rfl, i0, i1⟩, rfl⟩
    walk_at "3"
    refine (lmixed_spec _ 5 (by decide) _ hS).mono ?_
    rintro d S1 ⟨⟨i2, rfl, i20, i21⟩, rfl⟩
    walk_at "3"
    refine ⟨j, _, drw r i2, rfl, hj, rfl, ?_⟩
    have hj2 : (S1.set j (drw r i2))[j]? = some (drw r i2) := by rw [List.getElem?_set_self hlt]
    walk_at "3"
    refine o_mixed hj2 ?_
    walk_at "3"
    refine o_mod (by omega) ?_
    obtain ⟨h1, h2⟩ := fmod_b i2 hb
    exact ⟨⟨_, rfl, h1, h2⟩, r, i2, hr, rfl⟩
theorem laround_spec {j : Nat} {b : Int} (hb : 0 < b) (hb2 : b ≤ 10 ^ 40) (S : Sto) (hS : Sane S) (hj : Dr S j) : (m__law_around [.ptr j, .int b] S).post fun z S' => Num (-b) (b + 1) z ∧ Mv j S S' := by
  refine m_defM hS (fun z => num_closed) ?_
  show (b__law_around [some (.ptr j), some (.int b), none, none] S).post _ _ _ _
  unfold b__law_around
  walk_at "3"
  refine ⟨fun k => ?_, fun k => ?_⟩
  · have k : b < 500000 := of_decide_eq_true k
    walk_at "3"
    refine o_mul (fits_l (by decide)) ?_
    walk_at "3"
    refine (lnext_spec (by omega) (by omega) S hS hj).mono ?_
    rintro z S1 ⟨⟨i, rfl, i0, i1⟩, mv⟩
    walk_at "3"
    exact ⟨⟨_, rfl, by omega, by omega⟩, mv⟩
  · walk_at "3"
    refine s_whileL (fun n δ S2 => ∃ (k : Nat) (f : Int), n + k = 20 ∧ k ≤ 7 ∧ 0 ≤ f ∧ f < 10 ^ (6 * k) ∧ Mv j S S2 ∧ δ = [some (.ptr j), some (.int b), some (.int f), some (.int (10 ^ (6 * k)))]) ?_ 20 _ _ _ ⟨0, 0, rfl, by decide, by decide, by decide, Mv.refl hj, rfl⟩ (by show 20 < 100; decide)
    rintro n δ S2 ⟨k, f, hn, hk, f0, f1, mv, rfl⟩
    walk_at "3"
    refine o_mul (fits_l (by decide)) ?_
    walk_at "3"
    refine ⟨fun q => ?_, fun q => ?_⟩
    · have q : (10 : Int) ^ (6 * k) < 2 * b + 1 := of_decide_eq_true q
      have k5 : k ≤ 6 := by
        refine Classical.byContradiction fun h => ?_
        have : k = 7 := by omega
        subst this
        omega
      refine ⟨n - 1, by omega, ?_⟩
      have e6 : (10 : Int) ^ (6 * (k + 1)) = 10 ^ (6 * k) * 1000000 := by rw [show 6 * (k + 1) = 6 * k + 6 by omega, Int.pow_add]; rfl
      walk_at "3"
      refine o_mul (fits_r (by decide)) ?_
      walk_at "3"
      refine (lnext_spec (by decide) (by decide) S2 (mv.sane hS) (mv.dr hj)).mono ?_
      rintro z S3 ⟨⟨i, rfl, i0, i1⟩, mv2⟩
      walk_at "3"
      refine o_mul (fits_r (by decide)) ?_
      walk_at "3"
      rw [← e6]
      exact ⟨k + 1, f * 1000000 + i, by omega, by omega, by omega, by omega, mv.trans mv2, rfl⟩
    · walk_at "3"
      refine o_mul (fits_l (by decide)) ?_
      walk_at "3"
      refine o_mod (by omega) ?_
      walk_at "3"
      obtain ⟨h1, h2⟩ := fmod_b f (m := 2 * b + 1) (by omega)
      exact ⟨⟨_, rfl, by omega, by omega⟩, mv⟩
end DL
set_option Elab.async false
set_option linter.all false
set_option maxRecDepth 100000
set_option maxHeartbeats 4000000
set_option autoImplicit false
/-! k31: draws: roots, beginnings. -/
namespace DL
open PySem L2
open Emb
local macro_rules | `(tactic| walk_at "1") => `(tactic| with_reducible first
  | refine s_seq ?_ | refine s_asg ?_ | refine s_ret ?_ | refine s_if ?_ | refine s_expr ?_ | refine s_next ?_ | refine s_brk ?_ | refine s_cont ?_ | refine s_for ?_ | refine s_while ?_
  | refine p_c ?_ | refine p_bin ?_ | refine p_as ?_ | refine p_cons ?_ | refine p_nil ?_ | refine p_un ?_ | refine p_call ?_ | refine p_if ?_ | refine p_own ?_
  | refine p_keep ?_ | refine p_tru ?_ | refine p_and ?_ | refine p_or ?_ | refine p_not ?_ | refine p_val ?_ | refine p_rand ?_ | refine p_ror ?_ | refine p_rnot ?_ | refine p_chain ?_ | refine p_bif ?_
  | refine o_add ?_ | refine o_sub ?_ | refine o_ltU ?_ | refine o_leU ?_ | refine o_gtU ?_ | refine o_geU ?_ | refine o_neg ?_ | refine o_eqI ?_ | refine o_neI ?_ | refine o_abs ?_ | refine o_tru ?_ | refine p_true ?_ | refine p_false ?_
  | refine o_lenT ?_ | refine o_lenL ?_ | refine o_ix0 ?_ | refine o_ix1 ?_ | refine o_ix2 ?_ | refine o_ix0L ?_ | refine o_ix1L ?_ | refine o_ix2L ?_
  | refine s_par ?_ | refine p_yes ?_ | refine p_seq ?_ | refine s_gnil ?_ | refine s_gcons ?_ | refine s_gtux ?_ | refine s_gtupl ?_ | refine p_onone ?_ | refine p_osome ?_ | refine p_get2 ?_ | refine s_putU ?_ | refine p_sortIt ?_)
local macro_rules | `(tactic| walk_at "2") => `(tactic| first
  | walk_at "1"
  | (with_reducible refine p_var2 ?_)
  | ((with_reducible refine s_name ?_ ?_); (· exact Nat.le_of_ble_eq_true rfl); dsimp only [List.set_cons_zero, List.set_cons_succ])
  | (with_reducible refine p_tup ?_) | (with_reducible refine p_lst ?_) | ((with_reducible refine ⟨?_, ?_⟩); (· exact Nat.le_of_ble_eq_true rfl))
  | ((with_reducible refine p_ex2 (x := ?_) (y := ?_) ?_ ?_); rotate_left; rotate_left; (· rfl); refine ⟨?_, ?_, ?_⟩; (· exact Nat.le_of_ble_eq_true rfl); (· exact Nat.le_of_ble_eq_true rfl); dsimp only [List.set_cons_zero, List.set_cons_succ])
  | ((with_reducible refine p_isT ?_ ?_); (· rfl)) | ((with_reducible refine p_isF ?_ ?_); (· rfl))
  | ((with_reducible refine p_ex (x := ?_) ?_ ?_); rotate_left; (· rfl)))
local macro_rules | `(tactic| walk_at "3") => `(tactic| repeat walk_at "2")
theorem ix_any {S : Sto} {ns : List Int} {i : Int} {Q : D → Sto → Prop} (h0 : 0 ≤ i) (h1 : i < ns.length) (h : ∀ v ∈ ns, Q (.int v) S) : (Res.lift (gIx S (.lst (ns.map .int)) (.int i)) S).post Q := by
  obtain ⟨n, rfl⟩ := Int.eq_ofNat_of_zero_le h0
  have hq : n < ns.length := by omega
  refine o_ixL (d := .int ns[n]) ?_ (h _ (List.getElem_mem hq))
  refine atI_nat ?_
  rw [List.getElem?_map, List.getElem?_eq_getElem hq]
  rfl
theorem idx_small : ∀ n : Fin 66, ∀ m : Fin 13, (idxS n.val (some 0) none ((m.val : Int) + 1)).length ≤ 1000 := by decide +kernel
theorem step_map {A B : Type} (f : A → B) (xs : List A) (lo hi : Option Int) (k : Int) : stepS (xs.map f) lo hi k = (stepS xs lo hi k).map f := by
  unfold stepS
  rw [List.length_map, List.map_filterMap]
  congr 1
  funext i
  rw [List.getElem?_map]
theorem lbegun_spec {cs : List Int} {m : Nat} (hc : cs.length ≤ 65) (h1 : 1 ≤ m) (hm : m ≤ 13) (S : Sto) (hS : Sane S) : (m__law_begun [.lst (cs.map .int), .int 0, .int m] S).post fun z S' => z = .ptr S.length ∧ ∃ r i : Int, 0 ≤ r ∧ S' = S ++ [drw r i] := by
  have sl : 16000000 ≤ sizeLine := by decide
  refine m_defK ?_
  show (b__law_begun [some (.lst (cs.map .int)), some (.int 0), some (.int m), none, none] S).post _ _ _ _
  unfold b__law_begun
  have hlen : (stepS cs (some 0) none (m : Int)).length ≤ 1000 := by
    have := idx_small ⟨cs.length, by omega⟩ ⟨m - 1, by omega⟩
    unfold stepS
    refine Nat.le_trans (List.length_filterMap_le _ _) ?_
    rw [show (m : Int) = ((m - 1 : Nat) : Int) + 1 by omega]
    exact this
  have tail : ∀ os : List Int, os ≠ [] → os.length ≤ 1000 → ((sSeq (sAsg (rAs gMax (rCons (rVar 3) rNil)) (gName 4))
    (sRet (rOwn (rDisp [((rC (.str "rest")), (rBin gMul (rVar 4) (rAs gInt (rCons (rBin gGeU (rVar 4) (rBin gPow (rC (.int 10)) (rC (.int 18)))) rNil)))), ((rC (.str "mixed")), (rCall m__law_mixed (rCons (rCall m__law_mixed (rCons (rAs gSum (rCons (rVar 3) rNil)) (rCons (rVar 1) rNil))) (rCons (rAs gLen (rCons (rVar 3) rNil)) rNil))))])))) [some (.lst (cs.map .int)), some (.int 0), some (.int m), some (.lst (os.map .int)), none] S).post (fun _ S1 => Res.post (.ok D.non S1) fun z S' => z = D.ptr S.length ∧ ∃ r i : Int, 0 ≤ r ∧ S' = S ++ [drw r i]) (fun (z : D) S' => z = D.ptr S.length ∧ ∃ r i : Int, 0 ≤ r ∧ S' = S ++ [drw r i]) NoS NoS := fun os ho hl => by
    obtain ⟨g, hg, _⟩ := maxI_mem ho
    walk_at "3"
    refine o_maxL hg ?_
    walk_at "3"
    refine p_disp ?_
    refine p_pairs ?_
    walk_at "3"
    refine pow6 (δ := []) (n := 18) (by decide) ?_
    walk_at "3"
    refine p_lift (a := .int (if decide ((10 : Int) ^ 18 ≤ g) then 1 else 0)) rfl ?_
    have hi : (if decide ((10 : Int) ^ 18 ≤ g) = true then (1 : Int) else 0).natAbs < 2 ^ 64 := by split <;> decide
    refine o_mul (fits_r hi) ?_
    have hr : 0 ≤ g * (if decide ((10 : Int) ^ 18 ≤ g) = true then (1 : Int) else 0) := by
      split
      · rename_i q
        have := of_decide_eq_true q
        omega
      · omega
    generalize g * (if decide ((10 : Int) ^ 18 ≤ g) = true then (1 : Int) else 0) = r at hr
    refine p_pairs ?_
    walk_at "3"
    refine o_sumI ?_
    walk_at "3"
    refine (lmixed_spec _ 0 (by decide) S hS).mono ?_
    rintro d S1 ⟨⟨i, rfl, i0, i1⟩, rfl⟩
    walk_at "3"
    refine (lmixed_spec _ _ (by rw [List.length_map]; omega) _ hS).mono ?_
    rintro d S1 ⟨⟨i2, rfl, i20, i21⟩, rfl⟩
    refine p_pairs_nil ?_
    refine ⟨rfl, ?_⟩
    exact ⟨rfl, r, i2, hr, rfl⟩
  walk_at "3"
  refine p_bind (p_var rfl ?_)
  refine p_bind (p_osome (p_var rfl ⟨0, rfl, ?_⟩))
  refine p_bind (p_onone ?_)
  refine p_bind (p_osome (p_var rfl ⟨(m : Int), rfl, ?_⟩))
  show Res.post (if (m : Int) ≠ 0 ∧ (stepS (cs.map D.int) (some 0) none (m : Int)).length ≤ sizeLine then Res.ok (D.lst (stepS (cs.map D.int) (some 0) none (m : Int))) S else .stuck) _
  rw [step_map, List.length_map, if_pos ⟨by omega, by omega⟩]
  refine Res.post.of_eq rfl ?_
  refine ⟨!((stepS cs (some 0) none (m : Int)).map D.int).isEmpty, rfl, fun h => ?_, fun h => ?_⟩
  · refine s_name (Nat.le_of_ble_eq_true rfl) ?_
    refine tail _ (fun e => ?_) hlen
    rw [e] at h
    cases h
  · refine p_keep ?_
    refine p_lst ?_
    refine p_cons (p_var rfl (p_nil ⟨by decide, _, rfl, ?_⟩))
    refine s_name (Nat.le_of_ble_eq_true rfl) ?_
    exact tail [0] (by simp) (by simp)
open PR
end DL
set_option Elab.async false
set_option linter.all false
set_option maxRecDepth 100000
set_option maxHeartbeats 4000000
set_option autoImplicit false
/-! Rows of fractions, by the law. -/
namespace DL
open PySem L2
open Emb
local macro_rules | `(tactic| walk_at "1") => `(tactic| with_reducible first
  | refine s_seq ?_ | refine s_asg ?_ | refine s_ret ?_ | refine s_if ?_ | refine s_expr ?_ | refine s_next ?_ | refine s_brk ?_ | refine s_cont ?_ | refine s_for ?_ | refine s_while ?_
  | refine p_c ?_ | refine p_bin ?_ | refine p_as ?_ | refine p_cons ?_ | refine p_nil ?_ | refine p_un ?_ | refine p_call ?_ | refine p_if ?_ | refine p_own ?_
  | refine p_keep ?_ | refine p_tru ?_ | refine p_and ?_ | refine p_or ?_ | refine p_not ?_ | refine p_val ?_ | refine p_rand ?_ | refine p_ror ?_ | refine p_rnot ?_ | refine p_chain ?_ | refine p_bif ?_
  | refine o_add ?_ | refine o_sub ?_ | refine o_ltU ?_ | refine o_leU ?_ | refine o_gtU ?_ | refine o_geU ?_ | refine o_neg ?_ | refine o_eqI ?_ | refine o_neI ?_ | refine o_abs ?_ | refine o_tru ?_ | refine p_true ?_ | refine p_false ?_
  | refine o_lenT ?_ | refine o_lenL ?_ | refine o_ix0 ?_ | refine o_ix1 ?_ | refine o_ix2 ?_ | refine o_ix0L ?_ | refine o_ix1L ?_ | refine o_ix2L ?_
  | refine s_par ?_ | refine p_yes ?_ | refine p_seq ?_ | refine s_gnil ?_ | refine s_gcons ?_ | refine s_gtux ?_ | refine s_gtupl ?_ | refine p_onone ?_ | refine p_osome ?_ | refine p_get2 ?_ | refine s_putU ?_ | refine p_sortIt ?_)
local macro_rules | `(tactic| walk_at "2") => `(tactic| first
  | walk_at "1"
  | (with_reducible refine p_var2 ?_)
  | ((with_reducible refine s_name ?_ ?_); (· exact Nat.le_of_ble_eq_true rfl); dsimp only [List.set_cons_zero, List.set_cons_succ])
  | (with_reducible refine p_tup ?_) | (with_reducible refine p_lst ?_) | ((with_reducible refine ⟨?_, ?_⟩); (· exact Nat.le_of_ble_eq_true rfl))
  | ((with_reducible refine p_ex2 (x := ?_) (y := ?_) ?_ ?_); rotate_left; rotate_left; (· rfl); refine ⟨?_, ?_, ?_⟩; (· exact Nat.le_of_ble_eq_true rfl); (· exact Nat.le_of_ble_eq_true rfl); dsimp only [List.set_cons_zero, List.set_cons_succ])
  | ((with_reducible refine p_isT ?_ ?_); (· rfl)) | ((with_reducible refine p_isF ?_ ?_); (· rfl))
  | ((with_reducible refine p_ex (x := ?_) ?_ ?_); rotate_left; (· rfl)))
local macro_rules | `(tactic| walk_at "3") => `(tactic| repeat walk_at "2")
/-! ### comprehensions over rows of pairs -/
section
variable {κ ν β : Type} [Emb κ] [Emb ν]
def in2 (δ : Sl) (a b : Nat) (x y : D) : Sl := ((wipeD δ [a, b]).set a (some x)).set b (some y)
theorem wipe_len : ∀ (vs : List Nat) (δ : Sl), (wipeD δ vs).length = δ.length
  | [], _ => rfl
  | v :: vs, δ => by show ((wipeD δ vs).set v none).length = _; rw [List.length_set, wipe_len vs δ]
theorem g2 {δ : Sl} {S : Sto} {a b : Nat} {x y : D} (ha : a < δ.length) (hb : b < δ.length) (t : List D → D) (ht : t = D.tup ∨ t = D.tux) : gTup (gCons (gName a) (gCons (gName b) gNil)) (t [x, y]) (wipeD δ [a, b]) S = .ok (in2 δ a b x y) S := by
  have e : gTup (gCons (gName a) (gCons (gName b) gNil)) (t [x, y]) (wipeD δ [a, b]) S = gCons (gName a) (gCons (gName b) gNil) [x, y] (wipeD δ [a, b]) S := by rcases ht with rfl | rfl <;> rfl
  rw [e]
  show (gName a x (wipeD δ [a, b]) S).bind (fun δ1 S1 => (gName b y δ1 S1).bind fun δ2 S2 => Res.ok δ2 S2) = _
  unfold gName
  rw [if_pos (by rw [wipe_len]; exact ha)]
  show (Res.bind (if b < ((wipeD δ [a, b]).set a (some x)).length then Res.ok _ S else .stuck) _) = _
  rw [if_pos (by rw [List.length_set, wipe_len]; exact hb)]
  rfl
end
/-! ### rows of fractions -/
end DL
set_option Elab.async false
set_option linter.all false
set_option maxRecDepth 100000
set_option maxHeartbeats 1000000
set_option autoImplicit false
namespace DL
open PySem L2
open Emb
local macro_rules | `(tactic| walk_at "1") => `(tactic| with_reducible first
  | refine s_seq ?_ | refine s_asg ?_ | refine s_ret ?_ | refine s_if ?_ | refine s_expr ?_ | refine s_next ?_ | refine s_brk ?_ | refine s_cont ?_ | refine s_for ?_ | refine s_while ?_
  | refine p_c ?_ | refine p_bin ?_ | refine p_as ?_ | refine p_cons ?_ | refine p_nil ?_ | refine p_un ?_ | refine p_call ?_ | refine p_if ?_ | refine p_own ?_
  | refine p_keep ?_ | refine p_tru ?_ | refine p_and ?_ | refine p_or ?_ | refine p_not ?_ | refine p_val ?_ | refine p_rand ?_ | refine p_ror ?_ | refine p_rnot ?_ | refine p_chain ?_ | refine p_bif ?_
  | refine o_add ?_ | refine o_sub ?_ | refine o_ltU ?_ | refine o_leU ?_ | refine o_gtU ?_ | refine o_geU ?_ | refine o_neg ?_ | refine o_eqI ?_ | refine o_neI ?_ | refine o_abs ?_ | refine o_tru ?_ | refine p_true ?_ | refine p_false ?_
  | refine o_lenT ?_ | refine o_lenL ?_ | refine o_ix0 ?_ | refine o_ix1 ?_ | refine o_ix2 ?_ | refine o_ix0L ?_ | refine o_ix1L ?_ | refine o_ix2L ?_
  | refine s_par ?_ | refine p_yes ?_ | refine p_seq ?_ | refine s_gnil ?_ | refine s_gcons ?_ | refine s_gtux ?_ | refine s_gtupl ?_ | refine p_onone ?_ | refine p_osome ?_ | refine p_get2 ?_ | refine s_putU ?_ | refine p_sortIt ?_)
local macro_rules | `(tactic| walk_at "2") => `(tactic| first
  | walk_at "1"
  | (with_reducible refine p_var2 ?_)
  | ((with_reducible refine s_name ?_ ?_); (· exact Nat.le_of_ble_eq_true rfl); dsimp only [List.set_cons_zero, List.set_cons_succ])
  | (with_reducible refine p_tup ?_) | (with_reducible refine p_lst ?_) | ((with_reducible refine ⟨?_, ?_⟩); (· exact Nat.le_of_ble_eq_true rfl))
  | ((with_reducible refine p_ex2 (x := ?_) (y := ?_) ?_ ?_); rotate_left; rotate_left; (· rfl); refine ⟨?_, ?_, ?_⟩; (· exact Nat.le_of_ble_eq_true rfl); (· exact Nat.le_of_ble_eq_true rfl); dsimp only [List.set_cons_zero, List.set_cons_succ])
  | ((with_reducible refine p_isT ?_ ?_); (· rfl)) | ((with_reducible refine p_isF ?_ ?_); (· rfl))
  | ((with_reducible refine p_ex (x := ?_) ?_ ?_); rotate_left; (· rfl)))
local macro_rules | `(tactic| walk_at "3") => `(tactic| repeat walk_at "2")
open PR
/-! ### polys of the law: lists of numbers -/
theorem m_defX {n : Nat} {b : RS} {ds : List D} {S : Sto} {P : D → Prop} (hS : Sane S) (hP : ∀ z, P z → D.closed S.length z = true) (h : (b (ds.map some ++ List.replicate (n - ds.length) none) S).post NoS (fun z S1 => P z ∧ S1.take S.length = S) NoS NoS) : (mDef n b ds S).post fun z S' => P z ∧ S' = S :=
  m_def (h.mono (fun _ _ z => z.elim) (fun z S1 ⟨e1, e2⟩ => by
    rw [hP z e1, e2, show closedL S.length S = true from hS]
    exact ⟨rfl, e1, rfl⟩) (fun _ _ z => z) (fun _ _ z => z))
def IL (xs : List Int) : D := .lst (xs.map .int)
theorem il_closed {m : Nat} (xs : List Int) : D.closed m (IL xs) = true := closed_ints' _
def padI (n : Nat) (xs : List Int) : List Int := xs ++ List.replicate (n - xs.length) 0
theorem pad_len {n : Nat} {xs : List Int} (h : xs.length ≤ n) : (padI n xs).length = n := by unfold padI; rw [List.length_append, List.length_replicate]; omega
theorem evI_app : ∀ (xs ys : List Int) (z : Int), evI (xs ++ ys) z = evI xs z + z ^ xs.length * evI ys z
  | [], ys, z => by
    show evI ys z = 0 + z ^ 0 * evI ys z
    rw [Int.pow_zero]; omega
  | c :: r, ys, z => by
    show c + z * evI (r ++ ys) z = c + z * evI r z + z ^ (r.length + 1) * evI ys z
    rw [evI_app r ys z, Int.pow_succ]
    grind
theorem evI_zeros (n : Nat) (z : Int) : evI (List.replicate n 0) z = 0 := by
  induction n with
  | zero => rfl
  | succ n ih => rw [List.replicate_succ]; show 0 + z * _ = 0; rw [ih]; omega
theorem evI_pad (n : Nat) (xs : List Int) (z : Int) : evI (padI n xs) z = evI xs z := by
  unfold padI
  rw [evI_app, evI_zeros]; omega
theorem evI_zip : ∀ (xs ys : List Int) (z : Int), xs.length = ys.length → evI (List.zipWith (· + ·) xs ys) z = evI xs z + evI ys z
  | [], [], _, _ => rfl
  | [], _ :: _, _, h => by cases h
  | _ :: _, [], _, h => by cases h
  | a :: r, b :: s, z, h => by
    show a + b + z * evI (List.zipWith (· + ·) r s) z = a + z * evI r z + (b + z * evI s z)
    rw [evI_zip r s z (Nat.succ.inj h)]
    grind
def psum (xs ys : List Int) : List Int := List.zipWith (· + ·) (padI (max xs.length ys.length) xs) (padI (max xs.length ys.length) ys)
theorem psum_len (xs ys : List Int) : (psum xs ys).length = max xs.length ys.length := by
  unfold psum
  rw [List.length_zipWith, pad_len (Nat.le_max_left _ _), pad_len (Nat.le_max_right _ _), Nat.min_self]
theorem psum_ev (xs ys : List Int) (z : Int) : evI (psum xs ys) z = evI xs z + evI ys z := by
  unfold psum
  rw [evI_zip _ _ z (by rw [pad_len (Nat.le_max_left _ _), pad_len (Nat.le_max_right _ _)]), evI_pad, evI_pad]
def BdI (B : Nat) (xs : List Int) : Prop := ∀ c ∈ xs, c.natAbs ≤ B
theorem bd_pad {B n : Nat} {xs : List Int} (h : BdI B xs) : BdI B (padI n xs) := fun c hc => by
  unfold padI at hc
  rcases List.mem_append.mp hc with g | g
  · exact h c g
  · rw [(List.mem_replicate.mp g).2]; exact Nat.zero_le _
theorem bd_zip : ∀ {xs ys : List Int} {A B : Nat}, BdI A xs → BdI B ys → BdI (A + B) (List.zipWith (· + ·) xs ys)
  | [], _, _, _, _, _, c, hc => by cases hc
  | _ :: _, [], _, _, _, _, c, hc => by cases hc
  | a :: r, b :: s, A, B, h, g, c, hc => by
    have hc : c ∈ (a + b) :: List.zipWith (· + ·) r s := hc
    rcases List.mem_cons.mp hc with rfl | hc
    · have h1 := h a List.mem_cons_self
      have h2 := g b List.mem_cons_self
      omega
    · exact bd_zip (fun x hx => h x (List.mem_cons_of_mem _ hx)) (fun x hx => g x (List.mem_cons_of_mem _ hx)) c hc
theorem psum_bd {A B : Nat} {xs ys : List Int} (h : BdI A xs) (g : BdI B ys) : BdI (A + B) (psum xs ys) := bd_zip (bd_pad h) (bd_pad g)
theorem gRep0 {S : Sto} {n : Nat} {k : Int} (hk : k = (n : Int)) (h : n ≤ 1000) : gRepF S (.lst [.int 0]) (.int k) = some (.lst ((List.replicate n (0 : Int)).map .int)) := by
  have sl : 16000000 ≤ sizeLine := by decide
  subst hk
  unfold gRepF
  dsimp only
  have e1 : (n : Int).toNat = n := by omega
  rw [e1, if_pos ⟨by omega, by omega, by simp; omega⟩]
  congr 2
  induction n with
  | zero => rfl
  | succ n ih => rw [List.replicate_succ, List.flatten_cons, ih (by omega) (by omega), List.replicate_succ]; rfl
theorem zipD_add : ∀ (xs ys : List Int), (zipD (xs.map D.int) (ys.map D.int)) = (xs.zip ys).map fun q => D.tux [.int q.1, .int q.2]
  | [], ys => by cases ys <;> rfl
  | _ :: _, [] => rfl
  | a :: r, b :: s => by
    show D.tux [.int a, .int b] :: zipD (r.map D.int) (s.map D.int) = _
    rw [zipD_add r s]
    rfl
theorem len_il {S : Sto} {d : D} {xs : List Int} {k : Int} (hk : k = (xs.length : Int)) (h : deref S d = IL xs) : gLen S [d] = some (.int k) := by
  subst hk
  unfold gLen
  dsimp only
  rw [h]
  unfold IL
  dsimp only
  rw [List.length_map]
theorem zip_map : ∀ (us vs : List Int), ((us.zip vs).map fun q : Int × Int => D.int (q.1 + q.2)) = (List.zipWith (· + ·) us vs).map D.int
  | [], vs => by cases vs <;> rfl
  | _ :: _, [] => rfl
  | a :: r, b :: s => congrArg (D.int (a + b) :: ·) (zip_map r s)
theorem lc_pairs {α : Type} {xs : List α} {a b : Nat} {e : RE} {t1 t2 f : α → D} {δ : Sl} {S : Sto} {Q : D → Sto → Prop} {it : RA} (ha : a < δ.length) (hb : b < δ.length) (hit : it δ S = .ok (xs.map fun x => .tux [t1 x, t2 x]) S) (hn : xs.length ≤ 1000)
    (he : ∀ x ∈ xs, e (in2 δ a b (t1 x) (t2 x)) S = .ok (f x) S) (q : Q (.lst (xs.map f)) S) : (rLc it (gTup (gCons (gName a) (gCons (gName b) gNil))) [a, b] bYes e δ S).post Q := by
  have sl : 16000000 ≤ sizeLine := by decide
  with_reducible refine p_lc ?_
  refine Res.post.of_eq hit ?_
  with_reducible refine Res.post.mono (p_lcL (fun xs2 acc T => ∃ (d r : List α), d ++ r = xs ∧ xs2 = r.map (fun x => D.tux [t1 x, t2 x]) ∧ acc = d.map f ∧ T = S) ?_ _ [] S ⟨[], xs, rfl, rfl, rfl, rfl⟩) ?_
  · rintro x2 xs2 acc T ⟨d, r, hd, hx, rfl, rfl⟩
    cases r with
    | nil => cases hx
    | cons x r =>
      rw [List.map_cons] at hx
      have hx1 := (List.cons.inj hx).1
      have hx2 := (List.cons.inj hx).2
      subst hx1
      refine Res.post.of_eq (g2 (S := T) ha hb D.tux (.inr rfl)) ?_
      refine Res.post.of_eq (show bYes _ T = .ok true T from rfl) ⟨fun _ => ?_, fun z => nomatch z⟩
      refine Res.post.of_eq (he x (by rw [← hd]; exact List.mem_append_right _ List.mem_cons_self)) ?_
      exact ⟨d ++ [x], r, by rw [List.append_assoc]; exact hd, hx2, by rw [List.map_append]; rfl, rfl⟩
  · rintro ys T ⟨d, r, hd, hx, e2, rfl⟩
    have hr : r = [] := List.map_eq_nil_iff.mp hx.symm
    subst hr
    rw [List.append_nil] at hd
    subst hd
    rw [List.nil_append] at e2
    subst e2
    exact ⟨by rw [List.length_map]; omega, q⟩
theorem poly_sum_spec {xs ys : List Int} (hx : xs.length ≤ 100) (hy : ys.length ≤ 100) {d : D} (S : Sto) (hS : Sane S) (hd : deref S d = IL ys) : m__law_poly_sum [IL xs, d] S = .ok (IL (psum xs ys)) S := by
  have sl : 16000000 ≤ sizeLine := by decide
  have hxd : deref S (IL xs) = IL xs := rfl
  obtain ⟨lx, hlx⟩ : ∃ l : Int, l = (xs.length : Int) := ⟨_, rfl⟩
  obtain ⟨ly, hly⟩ : ∃ l : Int, l = (ys.length : Int) := ⟨_, rfl⟩
  refine m_defJ hS (il_closed _) ?_
  show (b__law_poly_sum [some (IL xs), some d, none, none, none] S).post _ _ _ _
  unfold b__law_poly_sum
  refine s_seq ?_
  refine s_asg ?_
  refine p_as ?_
  refine p_cons ?_
  refine p_as ?_
  refine p_cons ?_
  refine p_var rfl ?_
  refine p_nil ?_
  refine p_lift (len_il hlx hxd) ?_
  refine p_cons ?_
  refine p_as ?_
  refine p_cons ?_
  refine p_var rfl ?_
  refine p_nil ?_
  refine p_lift (len_il hly hd) ?_
  refine p_nil ?_
  obtain ⟨m, hm, hm2⟩ : ∃ m : Int, m = ((max xs.length ys.length : Nat) : Int) ∧ (if ly > lx then ly else lx) = m := ⟨_, rfl, by split <;> omega⟩
  refine p_lift (show gMax S [.int lx, .int ly] = some (.int m) by rw [← hm2]; rfl) ?_
  refine s_name (Nat.le_of_ble_eq_true rfl) ?_
  dsimp only [List.set_cons_zero, List.set_cons_succ]
  have hcat : ∀ {e : D} {zs : List Int}, deref S e = IL zs → zs.length ≤ 100 → gCat S e (.lst ((List.replicate (max xs.length ys.length - zs.length) (0 : Int)).map .int)) = some (IL (padI (max xs.length ys.length) zs)) := fun {e zs} he hz => by
    unfold gCat
    rw [he]
    unfold IL deref
    dsimp only
    rw [if_pos (by rw [List.length_map, List.length_map, List.length_replicate]; omega), ← List.map_append]
    rfl
  have hmx : max xs.length ys.length ≤ 100 := Nat.max_le.mpr ⟨hx, hy⟩
  have h1 : xs.length ≤ max xs.length ys.length := Nat.le_max_left _ _
  have h2 : ys.length ≤ max xs.length ys.length := Nat.le_max_right _ _
  generalize hM : max xs.length ys.length = M at *
  refine s_seq ?_
  refine s_asg ?_
  refine p_keep ?_
  refine p_bin ?_
  refine p_var rfl ?_
  refine p_keep ?_
  refine p_bin ?_
  refine p_lst ?_
  refine p_cons ?_
  refine p_c ?_
  refine p_nil ?_
  refine ⟨Nat.le_of_ble_eq_true rfl, ?_⟩
  refine p_bin ?_
  refine p_var rfl ?_
  refine p_as ?_
  refine p_cons ?_
  refine p_var rfl ?_
  refine p_nil ?_
  refine p_lift (len_il hlx hxd) ?_
  refine p_lift (show gSub S (.int m) (.int lx) = some (.int (m - lx)) from rfl) ?_
  refine p_lift (gRep0 (n := M - xs.length) (by omega) (by omega)) ?_
  refine ⟨_, rfl, ?_⟩
  refine p_lift (hcat hxd hx) ?_
  refine ⟨_, rfl, ?_⟩
  refine s_name (Nat.le_of_ble_eq_true rfl) ?_
  dsimp only [List.set_cons_zero, List.set_cons_succ]
  refine s_seq ?_
  refine s_asg ?_
  refine p_keep ?_
  refine p_bin ?_
  refine p_var rfl ?_
  refine p_keep ?_
  refine p_bin ?_
  refine p_lst ?_
  refine p_cons ?_
  refine p_c ?_
  refine p_nil ?_
  refine ⟨Nat.le_of_ble_eq_true rfl, ?_⟩
  refine p_bin ?_
  refine p_var rfl ?_
  refine p_as ?_
  refine p_cons ?_
  refine p_var rfl ?_
  refine p_nil ?_
  refine p_lift (len_il hly hd) ?_
  refine p_lift (show gSub S (.int m) (.int ly) = some (.int (m - ly)) from rfl) ?_
  refine p_lift (gRep0 (n := M - ys.length) (by omega) (by omega)) ?_
  refine ⟨_, rfl, ?_⟩
  refine p_lift (hcat hd hy) ?_
  refine ⟨_, rfl, ?_⟩
  refine s_name (Nat.le_of_ble_eq_true rfl) ?_
  dsimp only [List.set_cons_zero, List.set_cons_succ]
  have e1 : psum xs ys = List.zipWith (· + ·) (padI M xs) (padI M ys) := by unfold psum; rw [hM]
  have l1 : (padI M xs).length = M := pad_len h1
  have l2 : (padI M ys).length = M := pad_len h2
  rw [e1]
  generalize padI M xs = us at *
  generalize padI M ys = vs at *
  refine s_ret ?_
  refine p_keep ?_
  have hz : ((us.zip vs).map fun q : Int × Int => D.int (q.1 + q.2)) = (List.zipWith (· + ·) us vs).map D.int := zip_map us vs
  refine lc_pairs (xs := us.zip vs) (a := 3) (b := 4) (t1 := fun q => D.int q.1) (t2 := fun q => D.int q.2) (f := fun q => D.int (q.1 + q.2)) (Nat.lt_of_succ_le (Nat.le_of_ble_eq_true rfl)) (Nat.lt_of_succ_le (Nat.le_of_ble_eq_true rfl)) (exact_of ?_) (by rw [List.length_zip]; omega) (fun q _ => exact_of ?_) ?_
  · refine p_zipA ?_
    refine p_cons ?_
    refine p_var rfl ?_
    refine p_cons ?_
    refine p_var rfl ?_
    refine p_nil ?_
    exact .inl ⟨_, _, rfl, zipD_add us vs, rfl⟩
  · dsimp only [in2, wipeD, List.set_cons_zero, List.set_cons_succ]
    refine p_bin ?_
    refine p_var rfl ?_
    refine p_var rfl ?_
    exact p_lift (show gAdd S (.int q.1) (.int q.2) = some (.int (q.1 + q.2)) from rfl) ⟨rfl, rfl⟩
  · rw [hz]
    exact ⟨_, rfl, rfl, List.take_length⟩
end DL
set_option Elab.async false
set_option linter.all false
set_option maxRecDepth 100000
set_option maxHeartbeats 1000000
set_option autoImplicit false
namespace DL
open PySem L2
open Emb
local macro_rules | `(tactic| walk_at "1") => `(tactic| with_reducible first
  | refine s_seq ?_ | refine s_asg ?_ | refine s_ret ?_ | refine s_if ?_ | refine s_expr ?_ | refine s_next ?_ | refine s_brk ?_ | refine s_cont ?_ | refine s_for ?_ | refine s_while ?_
  | refine p_c ?_ | refine p_bin ?_ | refine p_as ?_ | refine p_cons ?_ | refine p_nil ?_ | refine p_un ?_ | refine p_call ?_ | refine p_if ?_ | refine p_own ?_
  | refine p_keep ?_ | refine p_tru ?_ | refine p_and ?_ | refine p_or ?_ | refine p_not ?_ | refine p_val ?_ | refine p_rand ?_ | refine p_ror ?_ | refine p_rnot ?_ | refine p_chain ?_ | refine p_bif ?_
  | refine o_add ?_ | refine o_sub ?_ | refine o_ltU ?_ | refine o_leU ?_ | refine o_gtU ?_ | refine o_geU ?_ | refine o_neg ?_ | refine o_eqI ?_ | refine o_neI ?_ | refine o_abs ?_ | refine o_tru ?_ | refine p_true ?_ | refine p_false ?_
  | refine o_lenT ?_ | refine o_lenL ?_ | refine o_ix0 ?_ | refine o_ix1 ?_ | refine o_ix2 ?_ | refine o_ix0L ?_ | refine o_ix1L ?_ | refine o_ix2L ?_
  | refine s_par ?_ | refine p_yes ?_ | refine p_seq ?_ | refine s_gnil ?_ | refine s_gcons ?_ | refine s_gtux ?_ | refine s_gtupl ?_ | refine p_onone ?_ | refine p_osome ?_ | refine p_get2 ?_ | refine s_putU ?_ | refine p_sortIt ?_)
local macro_rules | `(tactic| walk_at "2") => `(tactic| first
  | walk_at "1"
  | (with_reducible refine p_var2 ?_)
  | ((with_reducible refine s_name ?_ ?_); (· exact Nat.le_of_ble_eq_true rfl); dsimp only [List.set_cons_zero, List.set_cons_succ])
  | (with_reducible refine p_tup ?_) | (with_reducible refine p_lst ?_) | ((with_reducible refine ⟨?_, ?_⟩); (· exact Nat.le_of_ble_eq_true rfl))
  | ((with_reducible refine p_ex2 (x := ?_) (y := ?_) ?_ ?_); rotate_left; rotate_left; (· rfl); refine ⟨?_, ?_, ?_⟩; (· exact Nat.le_of_ble_eq_true rfl); (· exact Nat.le_of_ble_eq_true rfl); dsimp only [List.set_cons_zero, List.set_cons_succ])
  | ((with_reducible refine p_isT ?_ ?_); (· rfl)) | ((with_reducible refine p_isF ?_ ?_); (· rfl))
  | ((with_reducible refine p_ex (x := ?_) ?_ ?_); rotate_left; (· rfl)))
local macro_rules | `(tactic| walk_at "3") => `(tactic| repeat walk_at "2")
open PR
/-! ### the law's product of polys -/
def enI : Nat → List Int → List (Nat × Int)
  | _, [] => []
  | n, x :: r => (n, x) :: enI (n + 1) r
theorem enum_int : ∀ (xs : List Int) (n : Nat), enumD n (xs.map .int) = (enI n xs).map fun q => D.tux [.int (q.1 : Int), .int q.2]
  | [], _ => rfl
  | x :: r, n => by
    show D.tux [.int n, .int x] :: enumD (n + 1) (r.map .int) = _
    rw [enum_int r (n + 1)]
    rfl
theorem enI_cons {n : Nat} {xs : List Int} {q : Nat × Int} {ys : List (Nat × Int)} (e : enI n xs = q :: ys) : ∃ r, xs = q.2 :: r ∧ q.1 = n ∧ ys = enI (n + 1) r := by
  cases xs with
  | nil => cases e
  | cons x r =>
    have e : (n, x) :: enI (n + 1) r = q :: ys := e
    obtain ⟨h1, h2⟩ := List.cons.inj e
    subst h1
    exact ⟨r, rfl, rfl, h2.symm⟩
theorem enI_nil {n : Nat} {xs : List Int} (e : [] = enI n xs) : xs = [] := by
  cases xs with
  | nil => rfl
  | cons x r => cases e
theorem ev_set : ∀ (l : List Int) (i : Nat) (v z : Int), i < l.length → evI (l.set i (l.getD i 0 + v)) z = evI l z + v * z ^ i
  | [], _, _, _, h => by cases h
  | c :: r, 0, v, z, _ => by
    show c + v + z * evI r z = c + z * evI r z + v * z ^ 0
    rw [Int.pow_zero]; omega
  | c :: r, i + 1, v, z, h => by
    show c + z * evI (r.set i (r.getD i 0 + v)) z = c + z * evI r z + v * z ^ (i + 1)
    rw [ev_set r i v z (Nat.lt_of_succ_lt_succ h), Int.pow_succ]
    grind
theorem bd_set {B M : Nat} {l : List Int} {i : Nat} {v : Int} (h : BdI B l) (hv : v.natAbs ≤ M) : BdI (B + M) (l.set i (l.getD i 0 + v)) := fun c hc => by
  rcases List.mem_or_eq_of_mem_set hc with g | g
  · have := h c g; omega
  · have h1 : (l.getD i 0).natAbs ≤ B := by
      rw [List.getD_eq_getElem?_getD]
      cases e : l[i]? with
      | none => exact Nat.zero_le _
      | some d => exact h d (List.mem_of_getElem? e)
    omega
theorem deref_lst {S : Sto} {k : Nat} {ds : List D} (h : S[k]? = some (.lst ds)) : deref S (.ptr k) = .lst ds := by
  unfold deref
  dsimp only
  rw [List.getD_eq_getElem?_getD, h]
  rfl
theorem ret_ex {o : Out} {T : D → Sto → Prop} (h : o.post NoS T NoS NoS) : ∃ z S1, o = .rt z S1 ∧ T z S1 := by
  cases o with
  | rt z S1 => exact ⟨z, S1, rfl, h⟩
  | nx _ _ => exact absurd h id
  | bk _ _ => exact absurd h id
  | ct _ _ => exact absurd h id
  | err _ _ _ _ => exact absurd h id
  | stuck => exact absurd h id
theorem ixN_natI {n j : Nat} {k : Int} (hk : k = (j : Int)) (h : j < n) : ixN n k = some j := by
  unfold ixN
  subst hk
  rw [if_pos (by omega), if_pos (by omega)]
  rfl
theorem poly_product_spec {xs ys : List Int} (hx : 1 ≤ xs.length ∧ xs.length ≤ 10) (hy : 1 ≤ ys.length ∧ ys.length ≤ 10) {M : Nat} (hM : ∀ x ∈ xs, ∀ y ∈ ys, (x * y).natAbs ≤ M ∧ mulFits x y = true) (S : Sto) (hS : Sane S) :
    ∃ l : List Int, m__law_poly_product [IL xs, IL ys] S = .ok (.ptr S.length) (S ++ [IL l]) ∧ l.length = xs.length + ys.length - 1 ∧ (∀ z, evI l z = evI xs z * evI ys z) ∧ BdI (100 * M) l := by
  have sl : 16000000 ≤ sizeLine := by decide
  have hxd : ∀ S, deref S (IL xs) = IL xs := fun _ => rfl
  have hyd : ∀ S, deref S (IL ys) = IL ys := fun _ => rfl
  obtain ⟨lx, hlx⟩ : ∃ l : Int, l = (xs.length : Int) := ⟨_, rfl⟩
  obtain ⟨ly, hly⟩ : ∃ l : Int, l = (ys.length : Int) := ⟨_, rfl⟩
  have main : (b__law_poly_product [some (IL xs), some (IL ys), none, none, none, none, none] S).post NoS (fun z S1 => z = .ptr S.length ∧ ∃ l : List Int, S1 = S ++ [IL l] ∧ l.length = xs.length + ys.length - 1 ∧ (∀ z, evI l z = evI xs z * evI ys z) ∧ BdI (100 * M) l) NoS NoS := by
    unfold b__law_poly_product
    refine s_seq ?_
    refine s_asg ?_
    refine p_own ?_
    refine p_bin ?_
    refine p_lst ?_
    refine p_cons ?_
    refine p_c ?_
    refine p_nil ?_
    refine ⟨Nat.le_of_ble_eq_true rfl, ?_⟩
    refine p_bin ?_
    refine p_bin ?_
    refine p_as ?_
    refine p_cons ?_
    refine p_var rfl ?_
    refine p_nil ?_
    refine p_lift (len_il hlx (hxd _)) ?_
    refine p_as ?_
    refine p_cons ?_
    refine p_var rfl ?_
    refine p_nil ?_
    refine p_lift (len_il hly (hyd _)) ?_
    refine p_lift (show gAdd S (.int lx) (.int ly) = some (.int (lx + ly)) from rfl) ?_
    refine p_c ?_
    refine p_lift (show gSub S (.int (lx + ly)) (.int 1) = some (.int (lx + ly - 1)) from rfl) ?_
    refine p_lift (gRep0 (n := xs.length + ys.length - 1) (by omega) (by omega)) ?_
    refine s_name (Nat.le_of_ble_eq_true rfl) ?_
    dsimp only [List.set_cons_zero, List.set_cons_succ]
    have hl0 : (List.replicate (xs.length + ys.length - 1) (0 : Int)).length = xs.length + ys.length - 1 := List.length_replicate
    have hb0 : BdI 0 (List.replicate (xs.length + ys.length - 1) (0 : Int)) := fun c hc => by rw [(List.mem_replicate.mp hc).2]; exact Nat.le_refl _
    have he0 : ∀ z, evI (List.replicate (xs.length + ys.length - 1) (0 : Int)) z = 0 := fun z => evI_zeros _ z
    have eIL : D.lst ((List.replicate (xs.length + ys.length - 1) (0 : Int)).map .int) = IL (List.replicate (xs.length + ys.length - 1) (0 : Int)) := rfl
    rw [eIL]
    generalize List.replicate (xs.length + ys.length - 1) (0 : Int) = l0 at *
    refine s_seq ?_
    refine s_for ?_
    refine p_enum ?_
    refine p_cons ?_
    refine p_var rfl ?_
    refine p_nil ?_
    refine ⟨_, rfl, ?_⟩
    rw [enum_int]
    have hs0 : ∀ z, evI l0 z = evI ([] : List Int) z * evI ys z := fun z => by rw [he0 z]; exact (Int.zero_mul _).symm
    have hs1 : BdI (([] : List Int).length * ys.length * M) l0 := by rw [show ([] : List Int).length * ys.length * M = 0 by simp]; exact hb0
    with_reducible refine s_forT (fun q : Nat × Int => D.tux [.int (q.1 : Int), .int q.2]) (fun es δ S2 => ∃ (pre rest l : List Int) (o3 o4 o5 o6 : Option D), xs = pre ++ rest ∧ es = enI pre.length rest ∧ l.length = xs.length + ys.length - 1 ∧ (∀ z, evI l z = evI pre z * evI ys z) ∧ BdI (pre.length * ys.length * M) l ∧ S2 = S ++ [IL l] ∧ δ = [some (IL xs), some (IL ys), some (.ptr S.length), o3, o4, o5, o6]) ?_ ?_ _ _ _ ⟨[], xs, l0, _, _, _, _, rfl, rfl, hl0, hs0, hs1, rfl, rfl⟩
    · rintro q es δ S2 ⟨pre, rest, l, o3, o4, o5, o6, hxs, hes, hl, hev, hbd, rfl, rfl⟩
      obtain ⟨r, hr1, hq1, hys⟩ := enI_cons hes.symm
      have hxs2 : xs = pre ++ q.2 :: r := by rw [hxs, hr1]
      have hpl : pre.length + 1 + r.length = xs.length := by rw [hxs2, List.length_append, List.length_cons]; omega
      have hqm : q.2 ∈ xs := by rw [hxs2]; exact List.mem_append_right _ List.mem_cons_self
      obtain ⟨k, hk⟩ : ∃ k : Int, k = (q.1 : Int) := ⟨_, rfl⟩
      rw [← hk]
      obtain ⟨x, hxe⟩ : ∃ x : Int, x = q.2 := ⟨_, rfl⟩
      rw [← hxe] at hxs2 hqm ⊢
      walk_at "3"
      refine p_enum ?_
      refine p_cons ?_
      refine p_var rfl ?_
      refine p_nil ?_
      refine ⟨_, rfl, ?_⟩
      rw [enum_int]
      have ht0 : ∀ z, evI l z = evI pre z * evI ys z + x * z ^ pre.length * evI ([] : List Int) z := fun z => by rw [hev z]; show _ = _ + x * z ^ pre.length * 0; rw [Int.mul_zero, Int.add_zero]
      have ht1 : BdI ((pre.length * ys.length + ([] : List Int).length) * M) l := by rw [show ([] : List Int).length = 0 from rfl, Nat.add_zero]; exact hbd
      with_reducible refine s_forT (fun q : Nat × Int => D.tux [.int (q.1 : Int), .int q.2]) (fun fs δ S2 => ∃ (p2 rest2 l : List Int) (o5 o6 : Option D), ys = p2 ++ rest2 ∧ fs = enI p2.length rest2 ∧ l.length = xs.length + ys.length - 1 ∧ (∀ z, evI l z = evI pre z * evI ys z + x * z ^ pre.length * evI p2 z) ∧ BdI ((pre.length * ys.length + p2.length) * M) l ∧ S2 = S ++ [IL l] ∧ δ = [some (IL xs), some (IL ys), some (.ptr S.length), some (.int k), some (.int x), o5, o6]) ?_ ?_ _ _ _ ⟨[], ys, l, _, _, rfl, rfl, hl, ht0, ht1, rfl, rfl⟩
      · rintro q2 fs δ S2 ⟨p2, rest2, l, o5, o6, hys2, hfs, hl, hev, hbd, rfl, rfl⟩
        obtain ⟨r2, hr2, hq2, hfs2⟩ := enI_cons hfs.symm
        have hys3 : ys = p2 ++ q2.2 :: r2 := by rw [hys2, hr2]
        have hpl2 : p2.length + 1 + r2.length = ys.length := by rw [hys3, List.length_append, List.length_cons]; omega
        have hqm2 : q2.2 ∈ ys := by rw [hys3]; exact List.mem_append_right _ List.mem_cons_self
        obtain ⟨k2, hk2⟩ : ∃ k : Int, k = (q2.1 : Int) := ⟨_, rfl⟩
        rw [← hk2]
        obtain ⟨y, hye⟩ : ∃ y : Int, y = q2.2 := ⟨_, rfl⟩
        rw [← hye] at hys3 hqm2 ⊢
        obtain ⟨hm1, hm2⟩ := hM x hqm y hqm2
        have hi : pre.length + p2.length < l.length := by omega
        have hix : atI (l.map D.int) (k + k2) = some (.int (l.getD (pre.length + p2.length) 0)) := by
          rw [show k + k2 = ((pre.length + p2.length : Nat) : Int) by omega]
          refine atI_nat ?_
          rw [List.getElem?_map, List.getD_eq_getElem?_getD, List.getElem?_eq_getElem hi]
          rfl
        walk_at "3"
        refine s_setL ?_
        refine p_bin ?_
        refine p_bin ?_
        refine p_var rfl ?_
        refine p_bin ?_
        refine p_var rfl ?_
        refine p_var rfl ?_
        refine p_lift (show gAdd (S ++ [IL l]) (.int k) (.int k2) = some (.int (k + k2)) from rfl) ?_
        refine p_lift (a := .int (l.getD (pre.length + p2.length) 0)) (by
          unfold gIx
          rw [deref_lst (show (S ++ [IL l])[S.length]? = some (.lst (l.map .int)) from get_app)]
          exact hix) ?_
        refine p_bin ?_
        refine p_var rfl ?_
        refine p_var rfl ?_
        refine o_mul hm2 ?_
        refine p_lift (show gAdd (S ++ [IL l]) (.int (l.getD (pre.length + p2.length) 0)) (.int (x * y)) = some (.int (l.getD (pre.length + p2.length) 0 + x * y)) from rfl) ?_
        refine p_var rfl ?_
        refine p_bin ?_
        refine p_var rfl ?_
        refine p_var rfl ?_
        refine p_lift (show gAdd (S ++ [IL l]) (.int k) (.int k2) = some (.int (k + k2)) from rfl) ?_
        refine ⟨S.length, k + k2, l.map .int, pre.length + p2.length, rfl, rfl, get_app, ?_, ?_⟩
        · rw [List.length_map]
          exact ixN_natI (by omega) hi
        · have e5 : (S ++ [IL l]).set S.length (.lst ((l.map D.int).set (pre.length + p2.length) (.int (l.getD (pre.length + p2.length) 0 + x * y)))) = S ++ [IL (l.set (pre.length + p2.length) (l.getD (pre.length + p2.length) 0 + x * y))] := by
            rw [set_app]
            unfold IL
            rw [List.map_set]
          rw [e5]
          refine ⟨p2 ++ [y], r2, _, _, _, by rw [hys3, List.append_assoc]; rfl, by rw [hfs2, List.length_append]; rfl, by rw [List.length_set]; exact hl, fun z => ?_, ?_, rfl, rfl⟩
          · rw [ev_set l _ _ z hi, hev z, evI_app, Int.pow_add]
            show _ = _ + x * z ^ pre.length * (evI p2 z + z ^ p2.length * (y + z * 0))
            grind
          · have := bd_set (i := pre.length + p2.length) hbd hm1
            rw [List.length_append]
            have e6 : (pre.length * ys.length + p2.length) * M + M = (pre.length * ys.length + (p2.length + [y].length)) * M := by
              show _ = (pre.length * ys.length + (p2.length + 1)) * M
              rw [← Nat.add_assoc, Nat.add_mul _ 1, Nat.one_mul]
            rw [← e6]
            exact this
      · rintro δ S2 ⟨p2, rest2, l, o5, o6, hys2, hfs, hl, hev, hbd, rfl, rfl⟩
        have hre := enI_nil hfs
        rw [hre, List.append_nil] at hys2
        subst hys2
        refine ⟨pre ++ [x], r, l, _, _, _, _, by rw [hxs2, List.append_assoc]; rfl, by rw [hys, List.length_append]; rfl, hl, fun z => ?_, ?_, rfl, rfl⟩
        · rw [hev z, evI_app]
          show _ = (evI pre z + z ^ pre.length * (x + z * 0)) * evI ys z
          grind
        · rw [List.length_append]
          have e6 : (pre.length * ys.length + ys.length) * M = (pre.length + [x].length) * ys.length * M := by
            show _ = (pre.length + 1) * ys.length * M
            rw [Nat.add_mul pre.length 1, Nat.one_mul]
          rw [← e6]
          exact hbd
    · rintro δ S2 ⟨pre, rest, l, o3, o4, o5, o6, hxs, hes, hl, hev, hbd, rfl, rfl⟩
      have hre := enI_nil hes
      rw [hre, List.append_nil] at hxs
      subst hxs
      refine s_ret ?_
      refine p_var rfl ?_
      refine ⟨rfl, l, rfl, hl, hev, fun c hc => Nat.le_trans (hbd c hc) ?_⟩
      exact Nat.mul_le_mul_right _ (Nat.mul_le_mul hx.2 hy.2)
  obtain ⟨z, S1, e1, hz, l, hS1, h1, h2, h3⟩ := ret_ex main
  refine ⟨l, m_give hS rfl (il_closed _) ?_, h1, h2, h3⟩
  show (b__law_poly_product [some (IL xs), some (IL ys), none, none, none, none, none] S).post _ _ _ _
  rw [e1]
  exact ⟨hz, hS1⟩
end DL
set_option Elab.async false
set_option linter.all false
set_option maxRecDepth 100000
set_option maxHeartbeats 4000000
set_option autoImplicit false
/-! Sums of rows. -/
namespace DL
open PySem L2
open Emb
local macro_rules | `(tactic| walk_at "1") => `(tactic| with_reducible first
  | refine s_seq ?_ | refine s_asg ?_ | refine s_ret ?_ | refine s_if ?_ | refine s_expr ?_ | refine s_next ?_ | refine s_brk ?_ | refine s_cont ?_ | refine s_for ?_ | refine s_while ?_
  | refine p_c ?_ | refine p_bin ?_ | refine p_as ?_ | refine p_cons ?_ | refine p_nil ?_ | refine p_un ?_ | refine p_call ?_ | refine p_if ?_ | refine p_own ?_
  | refine p_keep ?_ | refine p_tru ?_ | refine p_and ?_ | refine p_or ?_ | refine p_not ?_ | refine p_val ?_ | refine p_rand ?_ | refine p_ror ?_ | refine p_rnot ?_ | refine p_chain ?_ | refine p_bif ?_
  | refine o_add ?_ | refine o_sub ?_ | refine o_ltU ?_ | refine o_leU ?_ | refine o_gtU ?_ | refine o_geU ?_ | refine o_neg ?_ | refine o_eqI ?_ | refine o_neI ?_ | refine o_abs ?_ | refine o_tru ?_ | refine p_true ?_ | refine p_false ?_
  | refine o_lenT ?_ | refine o_lenL ?_ | refine o_ix0 ?_ | refine o_ix1 ?_ | refine o_ix2 ?_ | refine o_ix0L ?_ | refine o_ix1L ?_ | refine o_ix2L ?_
  | refine s_par ?_ | refine p_yes ?_ | refine p_seq ?_ | refine s_gnil ?_ | refine s_gcons ?_ | refine s_gtux ?_ | refine s_gtupl ?_ | refine p_onone ?_ | refine p_osome ?_ | refine p_get2 ?_ | refine s_putU ?_ | refine p_sortIt ?_)
local macro_rules | `(tactic| walk_at "2") => `(tactic| first
  | walk_at "1"
  | (with_reducible refine p_var2 ?_)
  | ((with_reducible refine s_name ?_ ?_); (· exact Nat.le_of_ble_eq_true rfl); dsimp only [List.set_cons_zero, List.set_cons_succ])
  | (with_reducible refine p_tup ?_) | (with_reducible refine p_lst ?_) | ((with_reducible refine ⟨?_, ?_⟩); (· exact Nat.le_of_ble_eq_true rfl))
  | ((with_reducible refine p_ex2 (x := ?_) (y := ?_) ?_ ?_); rotate_left; rotate_left; (· rfl); refine ⟨?_, ?_, ?_⟩; (· exact Nat.le_of_ble_eq_true rfl); (· exact Nat.le_of_ble_eq_true rfl); dsimp only [List.set_cons_zero, List.set_cons_succ])
  | ((with_reducible refine p_isT ?_ ?_); (· rfl)) | ((with_reducible refine p_isF ?_ ?_); (· rfl))
  | ((with_reducible refine p_ex (x := ?_) ?_ ?_); rotate_left; (· rfl)))
local macro_rules | `(tactic| walk_at "3") => `(tactic| repeat walk_at "2")
/-! ### sums of rows -/
/-! ### the walk of a sum -/
end DL
set_option Elab.async false
set_option linter.all false
set_option maxRecDepth 100000
set_option maxHeartbeats 4000000
set_option autoImplicit false
/-! Forms that are drawn. -/
namespace DL
open PySem L2
open Emb
local macro_rules | `(tactic| walk_at "1") => `(tactic| with_reducible first
  | refine s_seq ?_ | refine s_asg ?_ | refine s_ret ?_ | refine s_if ?_ | refine s_expr ?_ | refine s_next ?_ | refine s_brk ?_ | refine s_cont ?_ | refine s_for ?_ | refine s_while ?_
  | refine p_c ?_ | refine p_bin ?_ | refine p_as ?_ | refine p_cons ?_ | refine p_nil ?_ | refine p_un ?_ | refine p_call ?_ | refine p_if ?_ | refine p_own ?_
  | refine p_keep ?_ | refine p_tru ?_ | refine p_and ?_ | refine p_or ?_ | refine p_not ?_ | refine p_val ?_ | refine p_rand ?_ | refine p_ror ?_ | refine p_rnot ?_ | refine p_chain ?_ | refine p_bif ?_
  | refine o_add ?_ | refine o_sub ?_ | refine o_ltU ?_ | refine o_leU ?_ | refine o_gtU ?_ | refine o_geU ?_ | refine o_neg ?_ | refine o_eqI ?_ | refine o_neI ?_ | refine o_abs ?_ | refine o_tru ?_ | refine p_true ?_ | refine p_false ?_
  | refine o_lenT ?_ | refine o_lenL ?_ | refine o_ix0 ?_ | refine o_ix1 ?_ | refine o_ix2 ?_ | refine o_ix0L ?_ | refine o_ix1L ?_ | refine o_ix2L ?_
  | refine s_par ?_ | refine p_yes ?_ | refine p_seq ?_ | refine s_gnil ?_ | refine s_gcons ?_ | refine s_gtux ?_ | refine s_gtupl ?_ | refine p_onone ?_ | refine p_osome ?_ | refine p_get2 ?_ | refine s_putU ?_ | refine p_sortIt ?_)
local macro_rules | `(tactic| walk_at "2") => `(tactic| first
  | walk_at "1"
  | (with_reducible refine p_var2 ?_)
  | ((with_reducible refine s_name ?_ ?_); (· exact Nat.le_of_ble_eq_true rfl); dsimp only [List.set_cons_zero, List.set_cons_succ])
  | (with_reducible refine p_tup ?_) | (with_reducible refine p_lst ?_) | ((with_reducible refine ⟨?_, ?_⟩); (· exact Nat.le_of_ble_eq_true rfl))
  | ((with_reducible refine p_ex2 (x := ?_) (y := ?_) ?_ ?_); rotate_left; rotate_left; (· rfl); refine ⟨?_, ?_, ?_⟩; (· exact Nat.le_of_ble_eq_true rfl); (· exact Nat.le_of_ble_eq_true rfl); dsimp only [List.set_cons_zero, List.set_cons_succ])
  | ((with_reducible refine p_isT ?_ ?_); (· rfl)) | ((with_reducible refine p_isF ?_ ?_); (· rfl))
  | ((with_reducible refine p_ex (x := ?_) ?_ ?_); rotate_left; (· rfl)))
local macro_rules | `(tactic| walk_at "3") => `(tactic| repeat walk_at "2")
/-! ### forms that are drawn -/
end DL
set_option Elab.async false
set_option linter.all false
set_option maxRecDepth 100000
set_option maxHeartbeats 4000000
set_option autoImplicit false
/-! What is shown. -/
namespace DL
open PySem L2
open Emb
local macro_rules | `(tactic| walk_at "1") => `(tactic| with_reducible first
  | refine s_seq ?_ | refine s_asg ?_ | refine s_ret ?_ | refine s_if ?_ | refine s_expr ?_ | refine s_next ?_ | refine s_brk ?_ | refine s_cont ?_ | refine s_for ?_ | refine s_while ?_
  | refine p_c ?_ | refine p_bin ?_ | refine p_as ?_ | refine p_cons ?_ | refine p_nil ?_ | refine p_un ?_ | refine p_call ?_ | refine p_if ?_ | refine p_own ?_
  | refine p_keep ?_ | refine p_tru ?_ | refine p_and ?_ | refine p_or ?_ | refine p_not ?_ | refine p_val ?_ | refine p_rand ?_ | refine p_ror ?_ | refine p_rnot ?_ | refine p_chain ?_ | refine p_bif ?_
  | refine o_add ?_ | refine o_sub ?_ | refine o_ltU ?_ | refine o_leU ?_ | refine o_gtU ?_ | refine o_geU ?_ | refine o_neg ?_ | refine o_eqI ?_ | refine o_neI ?_ | refine o_abs ?_ | refine o_tru ?_ | refine p_true ?_ | refine p_false ?_
  | refine o_lenT ?_ | refine o_lenL ?_ | refine o_ix0 ?_ | refine o_ix1 ?_ | refine o_ix2 ?_ | refine o_ix0L ?_ | refine o_ix1L ?_ | refine o_ix2L ?_
  | refine s_par ?_ | refine p_yes ?_ | refine p_seq ?_ | refine s_gnil ?_ | refine s_gcons ?_ | refine s_gtux ?_ | refine s_gtupl ?_ | refine p_onone ?_ | refine p_osome ?_ | refine p_get2 ?_ | refine s_putU ?_ | refine p_sortIt ?_)
local macro_rules | `(tactic| walk_at "2") => `(tactic| first
  | walk_at "1"
  | (with_reducible refine p_var2 ?_)
  | ((with_reducible refine s_name ?_ ?_); (· exact Nat.le_of_ble_eq_true rfl); dsimp only [List.set_cons_zero, List.set_cons_succ])
  | (with_reducible refine p_tup ?_) | (with_reducible refine p_lst ?_) | ((with_reducible refine ⟨?_, ?_⟩); (· exact Nat.le_of_ble_eq_true rfl))
  | ((with_reducible refine p_ex2 (x := ?_) (y := ?_) ?_ ?_); rotate_left; rotate_left; (· rfl); refine ⟨?_, ?_, ?_⟩; (· exact Nat.le_of_ble_eq_true rfl); (· exact Nat.le_of_ble_eq_true rfl); dsimp only [List.set_cons_zero, List.set_cons_succ])
  | ((with_reducible refine p_isT ?_ ?_); (· rfl)) | ((with_reducible refine p_isF ?_ ?_); (· rfl))
  | ((with_reducible refine p_ex (x := ?_) ?_ ?_); rotate_left; (· rfl)))
local macro_rules | `(tactic| walk_at "3") => `(tactic| repeat walk_at "2")
mutual
theorem fit_lay : ∀ {x : PyData}, fitP x = true → x.canLay0 = true
  | .none, _ => by simp [PyData.canLay0]
  | .bool _, _ => by simp [PyData.canLay0]
  | .int _, _ => by simp [PyData.canLay0]
  | .str _, h => by unfold fitP at h; simp [PyData.canLay0, h]
  | .list xs, h => by unfold fitP at h; simp only [PyData.canLay0]; exact fits_lay h
  | .tuple xs, h => by unfold fitP at h; simp only [PyData.canLay0]; exact fits_lay h
  | .dict _, h => by unfold fitP at h; cases h
theorem fits_lay : ∀ {xs : List PyData}, fitPs xs = true → PyData.canLayAll0 xs = true
  | [], _ => by simp [PyData.canLayAll0]
  | x :: r, h => by
    unfold fitPs at h
    rw [Bool.and_eq_true] at h
    simp only [PyData.canLayAll0, fit_lay h.1, fits_lay h.2, Bool.and_self]
end
theorem fit_shaped {x : PyData} (h : fitP x = true) (hd : x.depth ≤ 64) : SeqAt.shaped x = true := by
  unfold SeqAt.shaped
  rw [fit_lay h, decide_eq_true hd]
  rfl
/-! ### what is shown -/
/-! equality of what is shown -/
theorem eqv_fit {κ : Type} [Emb κ] [DecidableEq κ] {a b : κ} (h : fitP (py a) = true) : PyData.eqv (py a) (py b) = decide (a = b) := by
  by_cases e : a = b
  · subst e; rw [eqv_refl _ h, decide_eq_true rfl]
  · rw [decide_eq_false e]
    cases q : PyData.eqv (py a) (py b) with
    | false => rfl
    | true => exact absurd (inj _ _ q) e
theorem o_neEmb {κ : Type} [Emb κ] [DecidableEq κ] {S : Sto} {a b : κ} {Q : D → Sto → Prop} (ha : fitP (py a) = true) (hb : fitP (py b) = true) (hd : deg κ ≤ 64) (h : Q (.bl (!decide (a = b))) S) : (Res.lift (gNe S (toD a) (toD b)) S).post Q :=
  o_neg_ (by rw [deref_emb, pyOk]) (by rw [deref_emb, pyOk]) (fit_shaped ha (Nat.le_trans (dep a) hd)) (fit_shaped hb (Nat.le_trans (dep b) hd)) (by rw [eqv_fit ha]; exact h)
end DL
set_option Elab.async false
set_option linter.all false
set_option maxRecDepth 100000
set_option maxHeartbeats 1000000
set_option autoImplicit false
namespace DL
open PySem L2
open Emb
local macro_rules | `(tactic| walk_at "1") => `(tactic| with_reducible first
  | refine s_seq ?_ | refine s_asg ?_ | refine s_ret ?_ | refine s_if ?_ | refine s_expr ?_ | refine s_next ?_ | refine s_brk ?_ | refine s_cont ?_ | refine s_for ?_ | refine s_while ?_
  | refine p_c ?_ | refine p_bin ?_ | refine p_as ?_ | refine p_cons ?_ | refine p_nil ?_ | refine p_un ?_ | refine p_call ?_ | refine p_if ?_ | refine p_own ?_
  | refine p_keep ?_ | refine p_tru ?_ | refine p_and ?_ | refine p_or ?_ | refine p_not ?_ | refine p_val ?_ | refine p_rand ?_ | refine p_ror ?_ | refine p_rnot ?_ | refine p_chain ?_ | refine p_bif ?_
  | refine o_add ?_ | refine o_sub ?_ | refine o_ltU ?_ | refine o_leU ?_ | refine o_gtU ?_ | refine o_geU ?_ | refine o_neg ?_ | refine o_eqI ?_ | refine o_neI ?_ | refine o_abs ?_ | refine o_tru ?_ | refine p_true ?_ | refine p_false ?_
  | refine o_lenT ?_ | refine o_lenL ?_ | refine o_ix0 ?_ | refine o_ix1 ?_ | refine o_ix2 ?_ | refine o_ix0L ?_ | refine o_ix1L ?_ | refine o_ix2L ?_
  | refine s_par ?_ | refine p_yes ?_ | refine p_seq ?_ | refine s_gnil ?_ | refine s_gcons ?_ | refine s_gtux ?_ | refine s_gtupl ?_ | refine p_onone ?_ | refine p_osome ?_ | refine p_get2 ?_ | refine s_putU ?_ | refine p_sortIt ?_)
local macro_rules | `(tactic| walk_at "2") => `(tactic| first
  | walk_at "1"
  | (with_reducible refine p_var2 ?_)
  | ((with_reducible refine s_name ?_ ?_); (· exact Nat.le_of_ble_eq_true rfl); dsimp only [List.set_cons_zero, List.set_cons_succ])
  | (with_reducible refine p_tup ?_) | (with_reducible refine p_lst ?_) | ((with_reducible refine ⟨?_, ?_⟩); (· exact Nat.le_of_ble_eq_true rfl))
  | ((with_reducible refine p_ex2 (x := ?_) (y := ?_) ?_ ?_); rotate_left; rotate_left; (· rfl); refine ⟨?_, ?_, ?_⟩; (· exact Nat.le_of_ble_eq_true rfl); (· exact Nat.le_of_ble_eq_true rfl); dsimp only [List.set_cons_zero, List.set_cons_succ])
  | ((with_reducible refine p_isT ?_ ?_); (· rfl)) | ((with_reducible refine p_isF ?_ ?_); (· rfl))
  | ((with_reducible refine p_ex (x := ?_) ?_ ?_); rotate_left; (· rfl)))
local macro_rules | `(tactic| walk_at "3") => `(tactic| repeat walk_at "2")
open PR
/-! ### the law's determinant -/
def rowE (n : Nat) (f : Nat → List Int) : D := .lst ((List.range n).map fun j => IL (f j))
def rowsE (n : Nat) (E : Nat → Nat → List Int) : D := .lst ((List.range n).map fun i => rowE n (E i))
theorem toPy_il {S : Sto} (xs : List Int) : toPy S (IL xs) = some (.list (xs.map PyData.int)) := by
  have : toPys S (xs.map D.int) = some (xs.map PyData.int) := by
    induction xs with
    | nil => rfl
    | cons a r ih =>
      rw [List.map_cons]
      unfold toPys
      rw [ih]
      rfl
  unfold IL toPy
  rw [this]
  rfl
theorem toPy_rowE {S : Sto} {n : Nat} {f : Nat → List Int} : toPy S (rowE n f) = some (.list ((List.range n).map fun j => PyData.list ((f j).map PyData.int))) := by
  unfold rowE toPy
  rw [toPys_map (g := fun j => PyData.list ((f j).map PyData.int)) fun j _ => toPy_il (f j)]
  rfl
theorem toPy_rowsE {S : Sto} {n : Nat} {E : Nat → Nat → List Int} : toPy S (rowsE n E) = some (.list ((List.range n).map fun i => PyData.list ((List.range n).map fun j => PyData.list ((E i j).map PyData.int)))) := by
  unfold rowsE toPy
  rw [toPys_map (g := fun i => PyData.list ((List.range n).map fun j => PyData.list ((E i j).map PyData.int))) fun i _ => toPy_rowE]
  rfl
theorem fitPs_map {A : Type} {f : A → PyData} : ∀ {l : List A}, (∀ i ∈ l, fitP (f i) = true) → fitPs (l.map f) = true
  | [], _ => by unfold List.map fitPs; rfl
  | i :: l, h => by
    unfold List.map fitPs
    rw [h i List.mem_cons_self, fitPs_map fun k hk => h k (List.mem_cons_of_mem _ hk)]
    rfl
theorem depth_map {A : Type} {f : A → PyData} {m : Nat} : ∀ {l : List A}, (∀ i ∈ l, (f i).depth ≤ m) → PyData.depthAll (l.map f) ≤ m
  | [], _ => by unfold List.map PyData.depthAll; omega
  | i :: l, h => by
    have h1 := h i List.mem_cons_self
    have h2 := depth_map fun k hk => h k (List.mem_cons_of_mem i hk)
    unfold List.map PyData.depthAll
    exact Nat.max_le.mpr ⟨h1, h2⟩
theorem rowsE_shaped {n : Nat} {E : Nat → Nat → List Int} (h : ∀ i j, BdI (2 ^ 2000) (E i j)) : SeqAt.shaped (.list ((List.range n).map fun i => PyData.list ((List.range n).map fun j => PyData.list ((E i j).map PyData.int)))) = true := by
  refine fit_shaped ?_ ?_
  · unfold fitP
    refine fitPs_map fun i _ => ?_
    unfold fitP
    refine fitPs_map fun j _ => ?_
    unfold fitP
    refine fitPs_map fun c hc => ?_
    unfold fitP
    have := h i j c hc
    exact decide_eq_true (Nat.lt_of_le_of_lt this (by decide +kernel))
  · have h1 : ∀ i j, (PyData.list ((E i j).map PyData.int)).depth ≤ 1 := fun i j => by
      have := depth_map (f := PyData.int) (m := 0) (l := E i j) fun c _ => by simp [PyData.depth]
      simp only [PyData.depth]
      omega
    have h2 : ∀ i, (PyData.list ((List.range n).map fun j => PyData.list ((E i j).map PyData.int))).depth ≤ 2 := fun i => by
      have := depth_map (f := fun j => PyData.list ((E i j).map PyData.int)) (m := 1) (l := List.range n) fun j _ => h1 i j
      simp only [PyData.depth]
      omega
    have := depth_map (f := fun i => PyData.list ((List.range n).map fun j => PyData.list ((E i j).map PyData.int))) (m := 2) (l := List.range n) fun i _ => h2 i
    simp only [PyData.depth]
    omega
theorem o_eqNilL {n : Nat} {E : Nat → Nat → List Int} (h : ∀ i j, BdI (2 ^ 2000) (E i j)) {S : Sto} {Q : D → Sto → Prop} (q : Q (.bl (decide (n = 0))) S) : (Res.lift (gEq S (rowsE n E) (.lst []))  S).post Q := by
  refine o_eqg (u := .list ((List.range n).map fun i => PyData.list ((List.range n).map fun j => PyData.list ((E i j).map PyData.int)))) (v := .list []) (show toPy S (rowsE n E) = _ from toPy_rowsE) rfl (rowsE_shaped h) (by decide +kernel) ?_
  have e : PyData.eqv (.list ((List.range n).map fun i => PyData.list ((List.range n).map fun j => PyData.list ((E i j).map PyData.int)))) (.list []) = decide (n = 0) := by
    cases n with
    | zero => rfl
    | succ n =>
      rw [List.range_succ_eq_map]
      rfl
  rw [e]
  exact q
/-- the spot of a number in the row of squares without a row and a column -/
def mnE (E : Nat → Nat → List Int) (at_ : Nat) : Nat → Nat → List Int := fun a b => E (a + 1) (sk at_ b)
theorem cut_skip {n at_ : Nat} (h : at_ ≤ n) (f : Nat → D) : ((List.range (n + 1)).map f).take at_ ++ ((List.range (n + 1)).map f).drop (at_ + 1) = (List.range n).map fun b => f (sk at_ b) := by
  refine List.ext_getElem? fun k => ?_
  by_cases hk : k < n
  · rw [List.getElem?_map, List.getElem?_range hk]
    by_cases g : k < at_
    · rw [List.getElem?_append_left (by rw [List.length_take, List.length_map, List.length_range]; omega), List.getElem?_take_of_lt g, List.getElem?_map, List.getElem?_range (by omega)]
      show some (f k) = some (f (sk at_ k))
      unfold sk
      rw [if_pos g]
    · rw [List.getElem?_append_right (by rw [List.length_take, List.length_map, List.length_range]; omega), List.length_take, List.length_map, List.length_range, List.getElem?_drop, List.getElem?_map, List.getElem?_range (by omega)]
      show some (f _) = some (f (sk at_ k))
      unfold sk
      rw [if_neg g]
      congr 2
      omega
  · rw [List.getElem?_eq_none (by rw [List.length_append, List.length_take, List.length_drop, List.length_map, List.length_range]; omega), List.getElem?_eq_none (by rw [List.length_map, List.length_range]; omega)]
theorem cutTo {n k : Nat} {f : Nat → D} {i : Int} (hi : i = (k : Int)) (h : k ≤ n) : cutD ((List.range n).map f) none (some i) = ((List.range n).map f).take k := by
  subst hi
  unfold cutD HT.sIx
  dsimp only
  rw [List.length_map, List.length_range, if_neg (by omega), List.drop_zero]
  congr 1
  omega
theorem cutFrom {n k : Nat} {f : Nat → D} {i : Int} (hi : i = (k : Int)) (h : k ≤ n) : cutD ((List.range n).map f) (some i) none = ((List.range n).map f).drop k := by
  subst hi
  unfold cutD HT.sIx
  dsimp only
  rw [List.length_map, List.length_range, if_neg (by omega), List.take_of_length_le]
  · congr 1; omega
  · rw [List.length_drop, List.length_map, List.length_range]; omega
structure DetL (n : Nat) (E : Nat → Nat → List Int) (l : List Int) : Prop where
  lo : 1 ≤ l.length
  hi : l.length ≤ n + 1
  bd : BdI (2 ^ (150 * n)) l
  ev : ∀ z, evI l z = detI n fun i j => evI (E i j) z
  ex : (∀ i j, (E i j).length = if i = j then 2 else 1) → l.length = n + 1
structure EntOk (E : Nat → Nat → List Int) : Prop where
  len : ∀ i j, 1 ≤ (E i j).length ∧ (E i j).length ≤ 2
  bd : ∀ i j, BdI (2 ^ 140) (E i j)
theorem EntOk.mn {E : Nat → Nat → List Int} (h : EntOk E) (at_ : Nat) : EntOk (mnE E at_) := ⟨fun i j => h.len _ _, fun i j => h.bd _ _⟩
def sgL (j : Nat) (xs : List Int) : List Int := xs.map fun c => if j % 2 = 1 then 0 - c else c
theorem sgL_ev (j : Nat) : ∀ (xs : List Int) (z : Int), evI (sgL j xs) z = sgn j * evI xs z
  | [], z => by show (0 : Int) = sgn j * 0; omega
  | c :: r, z => by
    show (if j % 2 = 1 then 0 - c else c) + z * evI (sgL j r) z = sgn j * (c + z * evI r z)
    rw [sgL_ev j r z]
    unfold sgn
    rcases Nat.mod_two_eq_zero_or_one j with h | h
    · rw [if_neg (by omega), if_pos h]; grind
    · rw [if_pos h, if_neg (by omega)]; grind
theorem sgL_bd {j B : Nat} {xs : List Int} (h : BdI B xs) : BdI B (sgL j xs) := fun c hc => by
  obtain ⟨d, hd, rfl⟩ := List.mem_map.mp hc
  have := h d hd
  split <;> omega
theorem sgL_len (j : Nat) (xs : List Int) : (sgL j xs).length = xs.length := List.length_map _
end DL
set_option Elab.async false
set_option linter.all false
set_option maxRecDepth 100000
set_option maxHeartbeats 1000000
set_option autoImplicit false
namespace DL
open PySem L2
open Emb
local macro_rules | `(tactic| walk_at "1") => `(tactic| with_reducible first
  | refine s_seq ?_ | refine s_asg ?_ | refine s_ret ?_ | refine s_if ?_ | refine s_expr ?_ | refine s_next ?_ | refine s_brk ?_ | refine s_cont ?_ | refine s_for ?_ | refine s_while ?_
  | refine p_c ?_ | refine p_bin ?_ | refine p_as ?_ | refine p_cons ?_ | refine p_nil ?_ | refine p_un ?_ | refine p_call ?_ | refine p_if ?_ | refine p_own ?_
  | refine p_keep ?_ | refine p_tru ?_ | refine p_and ?_ | refine p_or ?_ | refine p_not ?_ | refine p_val ?_ | refine p_rand ?_ | refine p_ror ?_ | refine p_rnot ?_ | refine p_chain ?_ | refine p_bif ?_
  | refine o_add ?_ | refine o_sub ?_ | refine o_ltU ?_ | refine o_leU ?_ | refine o_gtU ?_ | refine o_geU ?_ | refine o_neg ?_ | refine o_eqI ?_ | refine o_neI ?_ | refine o_abs ?_ | refine o_tru ?_ | refine p_true ?_ | refine p_false ?_
  | refine o_lenT ?_ | refine o_lenL ?_ | refine o_ix0 ?_ | refine o_ix1 ?_ | refine o_ix2 ?_ | refine o_ix0L ?_ | refine o_ix1L ?_ | refine o_ix2L ?_
  | refine s_par ?_ | refine p_yes ?_ | refine p_seq ?_ | refine s_gnil ?_ | refine s_gcons ?_ | refine s_gtux ?_ | refine s_gtupl ?_ | refine p_onone ?_ | refine p_osome ?_ | refine p_get2 ?_ | refine s_putU ?_ | refine p_sortIt ?_)
local macro_rules | `(tactic| walk_at "2") => `(tactic| first
  | walk_at "1"
  | (with_reducible refine p_var2 ?_)
  | ((with_reducible refine s_name ?_ ?_); (· exact Nat.le_of_ble_eq_true rfl); dsimp only [List.set_cons_zero, List.set_cons_succ])
  | (with_reducible refine p_tup ?_) | (with_reducible refine p_lst ?_) | ((with_reducible refine ⟨?_, ?_⟩); (· exact Nat.le_of_ble_eq_true rfl))
  | ((with_reducible refine p_ex2 (x := ?_) (y := ?_) ?_ ?_); rotate_left; rotate_left; (· rfl); refine ⟨?_, ?_, ?_⟩; (· exact Nat.le_of_ble_eq_true rfl); (· exact Nat.le_of_ble_eq_true rfl); dsimp only [List.set_cons_zero, List.set_cons_succ])
  | ((with_reducible refine p_isT ?_ ?_); (· rfl)) | ((with_reducible refine p_isF ?_ ?_); (· rfl))
  | ((with_reducible refine p_ex (x := ?_) ?_ ?_); rotate_left; (· rfl)))
local macro_rules | `(tactic| walk_at "3") => `(tactic| repeat walk_at "2")
open PR
theorem lc_nameQ {n i : Nat} {e : RE} {f ti : Nat → D} {δ : Sl} {S : Sto} {Q : D → Sto → Prop} {it : RA} (hi : i < δ.length) (hit : it δ S = .ok ((List.range n).map ti) S) (hn : n ≤ 1000)
    (h : ∀ k, k < n → e ((wipeD δ [i]).set i (some (ti k))) S = .ok (f k) S) (q : Q (.lst ((List.range n).map f)) S) : (rLc it (gName i) [i] bYes e δ S).post Q :=
  lc_rng ti hit hn (fun k hk => ⟨_, by
    unfold gName
    rw [if_pos (by rw [wipe_len]; exact hi)], h k hk⟩) q
theorem lc_map {α : Type} {xs : List α} {i : Nat} {e : RE} {ti f : α → D} {δ : Sl} {S : Sto} {Q : D → Sto → Prop} {it : RA} (hi : i < δ.length) (hit : it δ S = .ok (xs.map ti) S) (hn : xs.length ≤ 1000)
    (h : ∀ x ∈ xs, e ((wipeD δ [i]).set i (some (ti x))) S = .ok (f x) S) (q : Q (.lst (xs.map f)) S) : (rLc it (gName i) [i] bYes e δ S).post Q := by
  have e1 : ∀ g : α → D, xs.map g = (List.range xs.length).map fun k => (xs[k]?.map g).getD .non := fun g => by
    refine List.ext_getElem? fun k => ?_
    by_cases hk : k < xs.length
    · rw [List.getElem?_map, List.getElem?_map, List.getElem?_range hk, List.getElem?_eq_getElem hk]
      show some (g xs[k]) = some ((xs[k]?.map g).getD .non)
      rw [List.getElem?_eq_getElem hk]
      rfl
    · rw [List.getElem?_eq_none (by rw [List.length_map]; omega), List.getElem?_eq_none (by rw [List.length_map, List.length_range]; omega)]
  rw [e1 ti] at hit
  refine lc_nameQ hi hit hn (fun k hk => ?_) (by rw [← e1 f]; exact q)
  rw [List.getElem?_eq_getElem hk]
  exact h _ (List.getElem_mem hk)
theorem enumD_get9 : ∀ (xs : List D) (n i : Nat), (enumD n xs)[i]? = xs[i]?.map fun d => D.tux [.int ((n + i : Nat) : Int), d]
  | [], n, i => by
    show ([] : List D)[i]? = _
    simp
  | x :: r, n, 0 => by
    show some (D.tux [.int (n : Int), x]) = some (D.tux [.int ((n + 0 : Nat) : Int), x])
    rfl
  | x :: r, n, i + 1 => by
    show (D.tux [.int n, x] :: enumD (n + 1) r)[i + 1]? = (x :: r)[i + 1]?.map _
    rw [List.getElem?_cons_succ, List.getElem?_cons_succ, enumD_get9 r (n + 1) i]
    congr 2
    funext d
    rw [show n + 1 + i = n + (i + 1) by omega]
theorem enum_rng9 (n : Nat) (f : Nat → D) : enumD 0 ((List.range n).map f) = (List.range n).map fun j : Nat => D.tux [.int (j : Int), f j] := by
  refine List.ext_getElem? fun i => ?_
  rw [enumD_get9, List.getElem?_map, List.getElem?_map]
  by_cases h : i < n
  · rw [List.getElem?_range h]
    show some (D.tux [.int ((0 + i : Nat) : Int), f i]) = some (D.tux [.int (i : Int), f i])
    rw [Nat.zero_add]
  · rw [List.getElem?_eq_none (by rw [List.length_range]; omega)]
    rfl
theorem det_spec : ∀ (n : Nat), n ≤ 6 → ∀ d, n < d → ∀ E : Nat → Nat → List Int, EntOk E → ∀ S, Sane S → (mr__law_determinant d [rowsE n E] S).post fun z S' => (∃ l, z = IL l ∧ DetL n E l) ∧ S' = S
  | n, hn, 0, h, _, _, _, _ => by omega
  | 0, hn, d + 1, _, E, hE, S, hS => by
    have sl : 16000000 ≤ sizeLine := by decide
    refine m_defX (P := fun z => ∃ l, z = IL l ∧ DetL 0 E l) hS (fun z ⟨l, e, _⟩ => by subst e; exact il_closed _) ?_
    show (b__law_determinant (mr__law_determinant d) [some (rowsE 0 E), none, none, none, none, none, none, none] S).post _ _ _ _
    unfold b__law_determinant
    refine s_seq ?_
    refine s_if ?_
    refine p_val ?_
    refine p_bin ?_
    refine p_var rfl ?_
    refine p_keep ?_
    refine p_lst ?_
    refine p_nil ?_
    refine ⟨Nat.le_of_ble_eq_true rfl, ?_⟩
    refine ⟨_, rfl, ?_⟩
    refine o_eqNilL (fun i j => fun c hc => Nat.le_trans (hE.bd i j c hc) (Nat.pow_le_pow_right (by decide) (by decide))) ?_
    refine ⟨_, rfl, (fun _ => ?_), (fun z => by cases z)⟩
    refine s_ret ?_
    refine p_keep ?_
    refine p_lst ?_
    refine p_cons ?_
    refine p_c ?_
    refine p_nil ?_
    refine ⟨Nat.le_of_ble_eq_true rfl, ?_⟩
    refine ⟨_, rfl, ?_⟩
    refine ⟨⟨[1], rfl, ⟨Nat.le_refl _, Nat.le_refl _, fun c hc => by rw [List.mem_singleton.mp hc]; decide, fun z => ?_, fun _ => rfl⟩⟩, List.take_length⟩
    show 1 + z * 0 = 1
    omega
  | n + 1, hn, d + 1, h, E, hE, S, hS => by
    have sl : 16000000 ≤ sizeLine := by decide
    have ih := det_spec n (by omega) d (by omega)
    have hE2 : ∀ i j, BdI (2 ^ 2000) (E i j) := fun i j c hc => Nat.le_trans (hE.bd i j c hc) (Nat.pow_le_pow_right (by decide) (by decide))
    refine m_defX (P := fun z => ∃ l, z = IL l ∧ DetL (n + 1) E l) hS (fun z ⟨l, e, _⟩ => by subst e; exact il_closed _) ?_
    show (b__law_determinant (mr__law_determinant d) [some (rowsE (n + 1) E), none, none, none, none, none, none, none] S).post _ _ _ _
    unfold b__law_determinant
    refine s_seq ?_
    refine s_if ?_
    refine p_val ?_
    refine p_bin ?_
    refine p_var rfl ?_
    refine p_keep ?_
    refine p_lst ?_
    refine p_nil ?_
    refine ⟨Nat.le_of_ble_eq_true rfl, ?_⟩
    refine ⟨_, rfl, ?_⟩
    refine o_eqNilL hE2 ?_
    refine ⟨_, rfl, (fun z => absurd (of_decide_eq_true z) (by omega)), fun _ => ?_⟩
    refine s_next ?_
    refine s_seq ?_
    refine s_asg ?_
    refine p_keep ?_
    refine p_lst ?_
    refine p_cons ?_
    refine p_c ?_
    refine p_nil ?_
    refine ⟨Nat.le_of_ble_eq_true rfl, ?_⟩
    refine ⟨_, rfl, ?_⟩
    refine s_name (Nat.le_of_ble_eq_true rfl) ?_
    dsimp only [List.set_cons_zero, List.set_cons_succ]
    have e0 : D.lst [D.int 0] = IL [0] := rfl
    rw [e0]
    have hrow0 : atI ((List.range (n + 1)).map fun i => rowE (n + 1) (E i)) 0 = some (rowE (n + 1) (E 0)) := by
      have := atI_nat (xs := (List.range (n + 1)).map fun i => rowE (n + 1) (E i)) (k := 0) (d := rowE (n + 1) (E 0)) (by rw [List.getElem?_map, List.getElem?_range (by omega)]; rfl)
      exact this
    refine s_seq ?_
    refine s_for ?_
    refine p_enum ?_
    refine p_cons ?_
    refine p_bin ?_
    refine p_var rfl ?_
    refine p_c ?_
    refine o_ixL hrow0 ?_
    refine p_nil ?_
    refine ⟨_, rfl, ?_⟩
    rw [enum_rng9]
    have hpow : (2 ^ 140 * 2 ^ (150 * n) : Nat) * 100 * 6 ≤ 2 ^ (150 * (n + 1)) := by
      rw [show 150 * (n + 1) = 140 + 150 * n + 10 by omega, Nat.pow_add, Nat.pow_add]
      generalize (2 ^ 140 * 2 ^ (150 * n) : Nat) = w
      omega
    have hpb : BdI (0 * (100 * (2 ^ 140 * 2 ^ (150 * n)))) [0] := fun c hc => by rw [List.mem_singleton.mp hc]; omega
    have hst0 : ∀ z, evI [0] z = Sm 0 fun j => sgn j * evI (E 0 j) z * detI n (fun a b => evI (mnE E j a b) z) := fun z => by
      rw [sm_zero]
      show 0 + z * 0 = 0
      omega
    have htk : S.take S.length = S := List.take_length
    with_reducible refine s_forT (fun j : Nat => D.tux [.int (j : Int), IL (E 0 j)]) (fun xs δ S2 => ∃ (i : Nat) (l : List Int) (o2 o3 o4 o5 o6 o7 : Option D), i + xs.length = n + 1 ∧ xs = (List.range (n + 1)).drop i ∧ Sane S2 ∧ S2.take S.length = S ∧ S.length ≤ S2.length ∧ 1 ≤ l.length ∧ l.length ≤ n + 2 ∧ BdI (i * (100 * (2 ^ 140 * 2 ^ (150 * n)))) l ∧ (∀ z, evI l z = Sm i fun j => sgn j * evI (E 0 j) z * detI n (fun a b => evI (mnE E j a b) z)) ∧ ((∀ i j, (E i j).length = if i = j then 2 else 1) → 1 ≤ i → l.length = n + 2) ∧ δ = [some (rowsE (n + 1) E), some (IL l), o2, o3, o4, o5, o6, o7]) ?_ ?_ _ _ _ ?_
    · rintro x xs δ S2 ⟨i, l, o2, o3, o4, o5, o6, o7, hi, hx, hS2, htk2, hle, l1, l2, hbd, hev, hex, rfl⟩
      rw [List.length_cons] at hi
      have hin : i < n + 1 := by omega
      have hxx : x = i ∧ xs = (List.range (n + 1)).drop (i + 1) := by
        rw [List.drop_eq_getElem_cons (by rw [List.length_range]; exact hin), List.getElem_range] at hx
        exact ⟨(List.cons.inj hx).1, (List.cons.inj hx).2⟩
      obtain ⟨hxi, hxs⟩ := hxx
      subst hxi
      obtain ⟨k, hk⟩ : ∃ k : Int, k = (x : Int) := ⟨_, rfl⟩
      rw [← hk]
      refine Res.post.of_eq (show gTup (gCons (gName 2) (gCons (gName 3) gNil)) (.tux [.int k, IL (E 0 x)]) [some (rowsE (n + 1) E), some (IL l), o2, o3, o4, o5, o6, o7] S2 = .ok [some (rowsE (n + 1) E), some (IL l), some (.int k), some (IL (E 0 x)), o4, o5, o6, o7] S2 from rfl) ?_
      refine s_seq ?_
      refine s_asg ?_
      refine p_call ?_
      refine p_cons ?_
      refine p_keep ?_
      have hdrop : cutD ((List.range (n + 1)).map fun i => rowE (n + 1) (E i)) (some 1) none = (List.range n).map fun a => rowE (n + 1) (E (a + 1)) := by
        rw [cutFrom (i := 1) (k := 1) rfl (by omega)]
        refine List.ext_getElem? fun a => ?_
        rw [List.getElem?_drop, List.getElem?_map, List.getElem?_map]
        by_cases ha : a < n
        · rw [List.getElem?_range ha, List.getElem?_range (by omega)]
          show some (rowE (n + 1) (E (1 + a))) = _
          rw [Nat.add_comm 1 a]
          rfl
        · rw [List.getElem?_eq_none (by rw [List.length_range]; omega), List.getElem?_eq_none (by rw [List.length_range]; omega)]
          rfl
      refine lc_map (xs := List.range n) (ti := fun a => rowE (n + 1) (E (a + 1))) (f := fun a => rowE n (mnE E x a)) (Nat.lt_of_succ_le (Nat.le_of_ble_eq_true rfl)) (exact_of ?_) (by rw [List.length_range]; omega) (fun a ha => exact_of ?_) ?_
      · refine p_seq ?_
        refine p_cutL ?_
        refine p_var rfl ?_
        refine p_osome ?_
        refine p_c ?_
        refine ⟨_, rfl, ?_⟩
        refine p_onone ?_
        refine ⟨_, rfl, ?_⟩
        rw [hdrop]
        exact .inl ⟨_, rfl, rfl, rfl⟩
      · dsimp only [wipeD, List.set_cons_zero, List.set_cons_succ]
        refine p_keep ?_
        refine p_bin ?_
        refine p_cutL ?_
        refine p_var rfl ?_
        refine p_onone ?_
        refine p_osome ?_
        refine p_var rfl ?_
        refine ⟨_, rfl, ?_⟩
        refine ⟨_, rfl, ?_⟩
        rw [cutTo (f := fun j => IL (E (a + 1) j)) hk (by omega)]
        refine p_cutL ?_
        refine p_var rfl ?_
        refine p_osome ?_
        refine p_bin ?_
        refine p_var rfl ?_
        refine p_c ?_
        refine p_lift (show gAdd S2 (.int k) (.int 1) = some (.int (k + 1)) from rfl) ?_
        refine ⟨_, rfl, ?_⟩
        refine p_onone ?_
        refine ⟨_, rfl, ?_⟩
        rw [cutFrom (k := x + 1) (f := fun j => IL (E (a + 1) j)) (by omega) (by omega)]
        refine p_lift (a := rowE n (mnE E x a)) (by
          unfold gCat deref
          dsimp only
          rw [if_pos (by rw [List.length_take, List.length_drop, List.length_map, List.length_range]; omega), cut_skip (by omega) fun j => IL (E (a + 1) j)]
          rfl) ?_
        exact ⟨_, rfl, rfl, rfl⟩
      refine ⟨_, rfl, ?_⟩
      refine p_nil ?_
      have e1 : D.lst ((List.range n).map fun a => rowE n (mnE E x a)) = rowsE n (mnE E x) := rfl
      rw [e1]
      with_reducible refine Res.post.mono (ih (mnE E x) (hE.mn x) S2 hS2) ?_
      rintro z S3 ⟨⟨l', rfl, hl'⟩, rfl⟩
      refine s_name (Nat.le_of_ble_eq_true rfl) ?_
      dsimp only [List.set_cons_zero, List.set_cons_succ]
      refine s_seq ?_
      refine s_asg ?_
      refine p_keep ?_
      refine lc_map (xs := E 0 x) (ti := D.int) (f := fun c => D.int (if x % 2 = 1 then 0 - c else c)) (Nat.lt_of_succ_le (Nat.le_of_ble_eq_true rfl)) (exact_of (p_seq (p_var rfl (.inl ⟨_, rfl, rfl, rfl⟩)))) (by have := (hE.len 0 x).2; omega) (fun c hc => exact_of ?_) ?_
      · dsimp only [wipeD, List.set_cons_zero, List.set_cons_succ]
        refine p_if ?_
        refine p_val ?_
        refine p_bin ?_
        refine p_bin ?_
        refine p_var rfl ?_
        refine p_c ?_
        refine o_mod (by decide) ?_
        refine p_c ?_
        refine o_eqI ?_
        have hfm : k.fmod 2 = ((x % 2 : Nat) : Int) := by rw [Int.fmod_eq_emod_of_nonneg _ (by decide), hk]; omega
        refine ⟨_, rfl, fun q => ?_, fun q => ?_⟩
        · have q : k.fmod 2 = 1 := of_decide_eq_true q
          refine p_bin ?_
          refine p_c ?_
          refine p_var rfl ?_
          refine p_lift (show gSub S3 (.int 0) (.int c) = some (.int (0 - c)) from rfl) ?_
          rw [if_pos (by omega)]
          exact ⟨rfl, rfl⟩
        · have q : ¬ k.fmod 2 = 1 := of_decide_eq_false q
          refine p_var rfl ?_
          rw [if_neg (by omega)]
          exact ⟨rfl, rfl⟩
      refine ⟨_, rfl, ?_⟩
      refine s_name (Nat.le_of_ble_eq_true rfl) ?_
      dsimp only [List.set_cons_zero, List.set_cons_succ]
      have e2 : D.lst ((E 0 x).map fun c => D.int (if x % 2 = 1 then 0 - c else c)) = IL (sgL x (E 0 x)) := by unfold IL sgL; rw [List.map_map]; rfl
      rw [e2]
      have hsl := sgL_len x (E 0 x)
      have hsb := sgL_bd (j := x) (hE.bd 0 x)
      have hEl := hE.len 0 x
      have hM : ∀ u ∈ sgL x (E 0 x), ∀ v ∈ l', (u * v).natAbs ≤ 2 ^ 140 * 2 ^ (150 * n) ∧ mulFits u v = true := fun u hu v hv => by
        have h1 := hsb u hu
        have h2 := hl'.bd v hv
        refine ⟨by rw [Int.natAbs_mul]; exact Nat.mul_le_mul h1 h2, fits_of (a := 141) (b := 150 * n + 1) (Nat.lt_of_le_of_lt h1 (by decide)) (Nat.lt_of_le_of_lt h2 (by rw [Nat.pow_succ]; have := Nat.pow_pos (n := 150 * n) (show 0 < 2 by decide); omega)) (by omega)⟩
      obtain ⟨l3, p1, p2, p3, p4⟩ := poly_product_spec (xs := sgL x (E 0 x)) (ys := l') (by omega) (by have := hl'.lo; have := hl'.hi; omega) hM S3 hS2
      have hS4 : Sane (S3 ++ [IL l3]) := sane_app hS2 (il_closed _)
      have hsm := poly_sum_spec (xs := l) (ys := l3) (by omega) (by have := hl'.hi; omega) (d := .ptr S3.length) (S3 ++ [IL l3]) hS4 (deref_lst get_app)
      refine s_asg ?_
      refine p_call ?_
      refine p_cons ?_
      refine p_var rfl ?_
      refine p_cons ?_
      refine p_call ?_
      refine p_cons ?_
      refine p_var rfl ?_
      refine p_cons ?_
      refine p_var rfl ?_
      refine p_nil ?_
      refine Res.post.of_eq p1 ?_
      refine p_nil ?_
      refine Res.post.of_eq hsm ?_
      refine s_name (Nat.le_of_ble_eq_true rfl) ?_
      dsimp only [List.set_cons_zero, List.set_cons_succ]
      have hl3 : l3.length ≤ n + 2 := by have := hl'.hi; omega
      refine ⟨x + 1, psum l l3, _, _, _, _, _, _, by omega, hxs, hS4, by rw [List.take_append_of_le_length hle]; exact htk2, by rw [List.length_append]; omega, by rw [psum_len]; omega, by rw [psum_len]; omega, ?_, fun z => ?_, fun hdg _ => ?_, rfl⟩
      · have := psum_bd hbd p4
        rw [Nat.add_mul x 1, Nat.one_mul]
        exact this
      · rw [psum_ev, hev z, p3 z, sm_succ, sgL_ev, hl'.ev z]
      · rw [psum_len]
        by_cases hx0 : x = 0
        · subst hx0
          have hd2 : ∀ i j, (mnE E 0 i j).length = if i = j then 2 else 1 := fun i j => by
            show (E (i + 1) (sk 0 j)).length = _
            have es : sk 0 j = j + 1 := by unfold sk; exact if_neg (by omega)
            rw [hdg, es]
            by_cases e : i = j
            · rw [if_pos (by omega), if_pos e]
            · rw [if_neg (by omega), if_neg e]
          have h1 := hl'.ex hd2
          have h2 := hdg 0 0
          rw [if_pos rfl] at h2
          omega
        · have h1 := hex hdg (by omega)
          have h2 := hdg 0 x
          rw [if_neg (fun e => hx0 e.symm)] at h2
          have h3 := hl'.hi
          omega
    · rintro δ S2 ⟨i, l, o2, o3, o4, o5, o6, o7, hi, hx, hS2, htk2, hle, l1, l2, hbd, hev, hex, rfl⟩
      have hi : i = n + 1 := by simpa using hi
      subst hi
      refine s_ret ?_
      refine p_var rfl ?_
      refine ⟨⟨l, rfl, l1, l2, fun c hc => Nat.le_trans (hbd c hc) (Nat.le_trans ?_ hpow), fun z => ?_, fun hdg => hex hdg (by omega)⟩, htk2⟩
      · generalize (2 ^ 140 * 2 ^ (150 * n) : Nat) = w
        have : (n + 1) * (100 * w) ≤ 6 * (100 * w) := Nat.mul_le_mul_right _ hn
        omega
      · rw [hev z]
        exact sm_congr fun j _ => rfl
    · exact ⟨0, [0], none, none, none, none, none, none, by rw [List.length_range]; omega, rfl, hS, htk, Nat.le_refl _, Nat.le_refl _, by show 1 ≤ n + 2; omega, hpb, hst0, fun _ h => by omega, rfl⟩
end DL
set_option Elab.async false
set_option linter.all false
set_option maxRecDepth 100000
set_option maxHeartbeats 1000000
set_option autoImplicit false
namespace DL
open PySem L2
open Emb
local macro_rules | `(tactic| walk_at "1") => `(tactic| with_reducible first
  | refine s_seq ?_ | refine s_asg ?_ | refine s_ret ?_ | refine s_if ?_ | refine s_expr ?_ | refine s_next ?_ | refine s_brk ?_ | refine s_cont ?_ | refine s_for ?_ | refine s_while ?_
  | refine p_c ?_ | refine p_bin ?_ | refine p_as ?_ | refine p_cons ?_ | refine p_nil ?_ | refine p_un ?_ | refine p_call ?_ | refine p_if ?_ | refine p_own ?_
  | refine p_keep ?_ | refine p_tru ?_ | refine p_and ?_ | refine p_or ?_ | refine p_not ?_ | refine p_val ?_ | refine p_rand ?_ | refine p_ror ?_ | refine p_rnot ?_ | refine p_chain ?_ | refine p_bif ?_
  | refine o_add ?_ | refine o_sub ?_ | refine o_ltU ?_ | refine o_leU ?_ | refine o_gtU ?_ | refine o_geU ?_ | refine o_neg ?_ | refine o_eqI ?_ | refine o_neI ?_ | refine o_abs ?_ | refine o_tru ?_ | refine p_true ?_ | refine p_false ?_
  | refine o_lenT ?_ | refine o_lenL ?_ | refine o_ix0 ?_ | refine o_ix1 ?_ | refine o_ix2 ?_ | refine o_ix0L ?_ | refine o_ix1L ?_ | refine o_ix2L ?_
  | refine s_par ?_ | refine p_yes ?_ | refine p_seq ?_ | refine s_gnil ?_ | refine s_gcons ?_ | refine s_gtux ?_ | refine s_gtupl ?_ | refine p_onone ?_ | refine p_osome ?_ | refine p_get2 ?_ | refine s_putU ?_ | refine p_sortIt ?_)
local macro_rules | `(tactic| walk_at "2") => `(tactic| first
  | walk_at "1"
  | (with_reducible refine p_var2 ?_)
  | ((with_reducible refine s_name ?_ ?_); (· exact Nat.le_of_ble_eq_true rfl); dsimp only [List.set_cons_zero, List.set_cons_succ])
  | (with_reducible refine p_tup ?_) | (with_reducible refine p_lst ?_) | ((with_reducible refine ⟨?_, ?_⟩); (· exact Nat.le_of_ble_eq_true rfl))
  | ((with_reducible refine p_ex2 (x := ?_) (y := ?_) ?_ ?_); rotate_left; rotate_left; (· rfl); refine ⟨?_, ?_, ?_⟩; (· exact Nat.le_of_ble_eq_true rfl); (· exact Nat.le_of_ble_eq_true rfl); dsimp only [List.set_cons_zero, List.set_cons_succ])
  | ((with_reducible refine p_isT ?_ ?_); (· rfl)) | ((with_reducible refine p_isF ?_ ?_); (· rfl))
  | ((with_reducible refine p_ex (x := ?_) ?_ ?_); rotate_left; (· rfl)))
local macro_rules | `(tactic| walk_at "3") => `(tactic| repeat walk_at "2")
open PR
/-! ### the law's poly of a square -/
def chE (A : Mt) (i j : Nat) : List Int := if i = j then [0 - A i j, 1] else [0 - A i j]
theorem chE_ev (A : Mt) (i j : Nat) (z : Int) : evI (chE A i j) z = chm A z i j := by
  unfold chE chm
  split
  · show 0 - A i j + z * (1 + z * 0) = z - A i j
    omega
  · show 0 - A i j + z * 0 = 0 - A i j
    omega
def Bd40 (A : Mt) : Prop := ∀ i j, (A i j).natAbs ≤ 10 ^ 40
theorem chE_ok {A : Mt} (h : Bd40 A) : EntOk (chE A) where
  len i j := by
    unfold chE
    split
    · show 1 ≤ 2 ∧ 2 ≤ 2; decide
    · show 1 ≤ 1 ∧ 1 ≤ 2; decide
  bd i j c hc := by
    have h1 := h i j
    have h2 : (10 ^ 40 : Nat) ≤ 2 ^ 140 := by decide
    unfold chE at hc
    split at hc
    · rcases List.mem_cons.mp hc with rfl | hc
      · omega
      · rw [List.mem_singleton] at hc
        subst hc
        exact Nat.le_trans (by decide) h2
    · rw [List.mem_singleton] at hc
      subst hc
      omega
theorem chE_len (A : Mt) (i j : Nat) : (chE A i j).length = if i = j then 2 else 1 := by
  unfold chE
  split <;> rfl
theorem s_freeze9 {i k : Nat} {δ : Sl} {S : Sto} {ds : List D} {N B C : Sl → Sto → Prop} {T : D → Sto → Prop} (e : δ[i]? = some (some (.ptr k))) (hk : S[k]? = some (.lst ds)) (h : N (δ.set i (some (.lst ds))) (S.set k .non)) : (sFreeze i δ S).post N T B C := by
  unfold sFreeze
  rw [e]
  dsimp only
  rw [hk]
  dsimp only
  exact h
theorem p_enumT {a : RA} {δ : Sl} {S : Sto} {QL : List D → Sto → Prop} (h : (a δ S).post fun xs S1 => ∃ ds, xs = [.tup ds] ∧ QL (enumD 0 ds) S1) : (rEnumT a δ S).post QL := p_bind (h.mono fun _ _ ⟨ds, e, q⟩ => by subst e; exact q)
theorem law_poly_spec {n : Nat} (hn : n ≤ 6) {A : Mt} (hA : Bd40 A) {P : List Int} (hl : P.length = n + 1) (hev : ∀ z, evI P z = detI n (chm A z)) (S : Sto) (hS : Sane S) : m__law_poly [sqD n A] S = .ok (.tup (P.map .int)) S := by
  have sl : 16000000 ≤ sizeLine := by decide
  refine m_defJ hS (show closedL _ (P.map D.int) = true from closed_ints' _) ?_
  show (b__law_poly [some (sqD n A), none, none, none, none, none] S).post _ _ _ _
  unfold b__law_poly
  refine s_seq ?_
  refine s_asg ?_
  refine p_own ?_
  refine p_lst ?_
  refine p_nil ?_
  refine ⟨Nat.le_of_ble_eq_true rfl, ?_⟩
  refine s_name (Nat.le_of_ble_eq_true rfl) ?_
  dsimp only [List.set_cons_zero, List.set_cons_succ]
  refine s_seq ?_
  refine s_for ?_
  refine p_enumT ?_
  refine p_cons ?_
  refine p_var rfl ?_
  refine p_nil ?_
  refine ⟨_, rfl, ?_⟩
  have e0 : enumD 0 ((List.range n).map (rowD' n A)) = (List.range n).map fun j : Nat => D.tux [.int (j : Int), rowD' n A j] := enum_rng9 n _
  rw [e0]
  with_reducible refine s_forT (fun j : Nat => D.tux [.int (j : Int), rowD' n A j]) (fun xs δ S2 => ∃ (i : Nat) (o2 o3 o4 o5 : Option D), i + xs.length = n ∧ xs = (List.range n).drop i ∧ S2 = S ++ [.lst ((List.range i).map fun a => rowE n (chE A a))] ∧ δ = [some (sqD n A), some (.ptr S.length), o2, o3, o4, o5]) ?_ ?_ _ _ _ ?_
  · rintro x xs δ S2 ⟨i, o2, o3, o4, o5, hi, hx, rfl, rfl⟩
    rw [List.length_cons] at hi
    have hin : i < n := by omega
    have hxx : x = i ∧ xs = (List.range n).drop (i + 1) := by
      rw [List.drop_eq_getElem_cons (by rw [List.length_range]; exact hin), List.getElem_range] at hx
      exact ⟨(List.cons.inj hx).1, (List.cons.inj hx).2⟩
    obtain ⟨hxi, hxs⟩ := hxx
    subst hxi
    obtain ⟨k, hk⟩ : ∃ k : Int, k = (x : Int) := ⟨_, rfl⟩
    rw [← hk]
    refine Res.post.of_eq (show gTup (gCons (gName 2) (gCons (gName 3) gNil)) (.tux [.int k, rowD' n A x]) [some (sqD n A), some (.ptr S.length), o2, o3, o4, o5] _ = .ok [some (sqD n A), some (.ptr S.length), some (.int k), some (rowD' n A x), o4, o5] _ from rfl) ?_
    refine s_expr ?_
    refine p_append2 rfl get_app ?_
    refine p_keep ?_
    refine lc_pairs (xs := List.range n) (a := 4) (b := 5) (t1 := fun j : Nat => D.int (j : Int)) (t2 := fun j => D.int (A x j)) (f := fun j => IL (chE A x j)) (Nat.lt_of_succ_le (Nat.le_of_ble_eq_true rfl)) (Nat.lt_of_succ_le (Nat.le_of_ble_eq_true rfl)) (exact_of ?_) (by rw [List.length_range]; omega) (fun j hj => exact_of ?_) ?_
    · refine p_enumT ?_
      refine p_cons ?_
      refine p_var rfl ?_
      refine p_nil ?_
      exact ⟨_, rfl, enum_rng9 n (fun j => D.int (A x j)), rfl⟩
    · dsimp only [in2, wipeD, List.set_cons_zero, List.set_cons_succ]
      obtain ⟨k2, hk2⟩ : ∃ k : Int, k = (j : Int) := ⟨_, rfl⟩
      rw [← hk2]
      refine p_if ?_
      refine p_val ?_
      refine p_bin ?_
      refine p_var rfl ?_
      refine p_var rfl ?_
      refine o_eqI ?_
      refine ⟨_, rfl, (fun q => ?_), (fun q => ?_)⟩
      · have q : k = k2 := of_decide_eq_true q
        have e : chE A x j = [0 - A x j, 1] := if_pos (by omega)
        rw [e]
        refine p_keep ?_
        refine p_lst ?_
        refine p_cons ?_
        refine p_bin ?_
        refine p_c ?_
        refine p_var rfl ?_
        refine p_lift (show gSub _ (.int 0) (.int (A x j)) = some (.int (0 - A x j)) from rfl) ?_
        refine p_cons ?_
        refine p_c ?_
        refine p_nil ?_
        refine ⟨Nat.le_of_ble_eq_true rfl, ?_⟩
        exact ⟨_, rfl, rfl, rfl⟩
      · have q : ¬ k = k2 := of_decide_eq_false q
        have e : chE A x j = [0 - A x j] := if_neg (by omega)
        rw [e]
        refine p_keep ?_
        refine p_lst ?_
        refine p_cons ?_
        refine p_bin ?_
        refine p_c ?_
        refine p_var rfl ?_
        refine p_lift (show gSub _ (.int 0) (.int (A x j)) = some (.int (0 - A x j)) from rfl) ?_
        refine p_nil ?_
        refine ⟨Nat.le_of_ble_eq_true rfl, ?_⟩
        exact ⟨_, rfl, rfl, rfl⟩
    refine ⟨_, rfl, ?_⟩
    refine ⟨_, get_app, by rw [List.length_map, List.length_range]; omega, ?_⟩
    rw [set_app]
    refine ⟨x + 1, _, _, _, _, by omega, hxs, ?_, rfl⟩
    rw [List.range_succ, List.map_append]
    rfl
  · rintro δ S2 ⟨i, o2, o3, o4, o5, hi, hx, rfl, rfl⟩
    have hi : i = n := by simpa using hi
    subst hi
    have hS2 : Sane (S ++ [.non]) := sane_app hS rfl
    have hdet : (m__law_determinant [rowsE i (chE A)] (S ++ [.non])).post _ := det_spec i hn 8 (by omega) (chE A) (chE_ok hA) _ hS2
    refine s_seq ?_
    refine s_freeze9 rfl get_app ?_
    rw [set_app]
    dsimp only [List.set_cons_zero, List.set_cons_succ]
    have e1 : D.lst ((List.range i).map fun a => rowE i (chE A a)) = rowsE i (chE A) := rfl
    rw [e1]
    refine s_ret ?_
    refine p_as ?_
    refine p_cons ?_
    refine p_cutL ?_
    refine p_call ?_
    refine p_cons ?_
    refine p_var rfl ?_
    refine p_nil ?_
    with_reducible refine Res.post.mono hdet ?_
    rintro z S3 ⟨⟨l, rfl, hl2⟩, rfl⟩
    have hlen := hl2.ex (chE_len A)
    have hlP : l = P := uniq l P 0 (by rw [hlen, hl]) fun z _ => by
      rw [hl2.ev z, hev z]
      exact det_congr fun a b _ _ => chE_ev A a b z
    subst hlP
    refine p_onone ?_
    refine p_osome ?_
    refine p_bin ?_
    refine p_as ?_
    refine p_cons ?_
    refine p_var rfl ?_
    refine p_nil ?_
    obtain ⟨ni, hni⟩ : ∃ k : Int, k = (i : Int) := ⟨_, rfl⟩
    refine p_lift (show gLen _ [sqD i A] = some (.int ni) by rw [hni]; exact len_sq) ?_
    refine p_c ?_
    refine p_lift (show gAdd _ (.int ni) (.int 1) = some (.int (ni + 1)) from rfl) ?_
    refine ⟨_, rfl, ?_⟩
    refine ⟨_, rfl, ?_⟩
    have hc : cutD (l.map D.int) none (some (ni + 1)) = l.map D.int := by
      unfold cutD HT.sIx
      dsimp only
      rw [List.length_map, if_neg (by omega), List.drop_zero, List.take_of_length_le (by rw [List.length_map]; omega)]
    rw [hc]
    refine p_nil ?_
    refine p_lift (show gTuple _ [.lst (l.map D.int)] = some (.tup (l.map D.int)) from rfl) ?_
    refine ⟨rfl, ?_⟩
    rw [List.take_append_of_le_length (Nat.le_refl _), List.take_length]
  · exact ⟨0, none, none, none, none, by rw [List.length_range]; omega, rfl, rfl, rfl⟩
end DL
set_option Elab.async false
set_option linter.all false
set_option maxRecDepth 100000
set_option maxHeartbeats 1000000
set_option autoImplicit false
namespace DL
open PySem L2
open Emb
local macro_rules | `(tactic| walk_at "1") => `(tactic| with_reducible first
  | refine s_seq ?_ | refine s_asg ?_ | refine s_ret ?_ | refine s_if ?_ | refine s_expr ?_ | refine s_next ?_ | refine s_brk ?_ | refine s_cont ?_ | refine s_for ?_ | refine s_while ?_
  | refine p_c ?_ | refine p_bin ?_ | refine p_as ?_ | refine p_cons ?_ | refine p_nil ?_ | refine p_un ?_ | refine p_call ?_ | refine p_if ?_ | refine p_own ?_
  | refine p_keep ?_ | refine p_tru ?_ | refine p_and ?_ | refine p_or ?_ | refine p_not ?_ | refine p_val ?_ | refine p_rand ?_ | refine p_ror ?_ | refine p_rnot ?_ | refine p_chain ?_ | refine p_bif ?_
  | refine o_add ?_ | refine o_sub ?_ | refine o_ltU ?_ | refine o_leU ?_ | refine o_gtU ?_ | refine o_geU ?_ | refine o_neg ?_ | refine o_eqI ?_ | refine o_neI ?_ | refine o_abs ?_ | refine o_tru ?_ | refine p_true ?_ | refine p_false ?_
  | refine o_lenT ?_ | refine o_lenL ?_ | refine o_ix0 ?_ | refine o_ix1 ?_ | refine o_ix2 ?_ | refine o_ix0L ?_ | refine o_ix1L ?_ | refine o_ix2L ?_
  | refine s_par ?_ | refine p_yes ?_ | refine p_seq ?_ | refine s_gnil ?_ | refine s_gcons ?_ | refine s_gtux ?_ | refine s_gtupl ?_ | refine p_onone ?_ | refine p_osome ?_ | refine p_get2 ?_ | refine s_putU ?_ | refine p_sortIt ?_)
local macro_rules | `(tactic| walk_at "2") => `(tactic| first
  | walk_at "1"
  | (with_reducible refine p_var2 ?_)
  | ((with_reducible refine s_name ?_ ?_); (· exact Nat.le_of_ble_eq_true rfl); dsimp only [List.set_cons_zero, List.set_cons_succ])
  | (with_reducible refine p_tup ?_) | (with_reducible refine p_lst ?_) | ((with_reducible refine ⟨?_, ?_⟩); (· exact Nat.le_of_ble_eq_true rfl))
  | ((with_reducible refine p_ex2 (x := ?_) (y := ?_) ?_ ?_); rotate_left; rotate_left; (· rfl); refine ⟨?_, ?_, ?_⟩; (· exact Nat.le_of_ble_eq_true rfl); (· exact Nat.le_of_ble_eq_true rfl); dsimp only [List.set_cons_zero, List.set_cons_succ])
  | ((with_reducible refine p_isT ?_ ?_); (· rfl)) | ((with_reducible refine p_isF ?_ ?_); (· rfl))
  | ((with_reducible refine p_ex (x := ?_) ?_ ?_); rotate_left; (· rfl)))
local macro_rules | `(tactic| walk_at "3") => `(tactic| repeat walk_at "2")
open PR
/-! ### which are squares -/
def isW (d : D) : Bool := match d with
  | .int _ => true
  | _ => false
def Sim0 (d : D) : Prop := (∃ i, d = .int i) ∨ d = .bl true ∨ d = .str "1" ∨ d = .non
theorem whole_sim {d : D} (h : Sim0 d) (S : Sto) (hS : Sane S) : m_is_whole [d] S = .ok (.bl (isW d)) S := by
  refine m_defS hS rfl ?_
  show (b_is_whole [some d] S).post _ _ _ _
  unfold b_is_whole
  refine s_ret ?_
  refine p_rand ?_
  refine p_as ?_
  refine p_cons ?_
  refine p_var rfl ?_
  refine p_cons ?_
  refine p_c ?_
  refine p_nil ?_
  rcases h with ⟨i, rfl⟩ | rfl | rfl | rfl
  · refine p_lift (a := .bl true) rfl ?_
    refine ⟨_, rfl, (fun _ => ?_), fun q => by cases q⟩
    refine p_rnot ?_
    refine p_as ?_
    refine p_cons ?_
    refine p_var rfl ?_
    refine p_cons ?_
    refine p_c ?_
    refine p_nil ?_
    refine p_lift (a := .bl false) rfl ?_
    exact ⟨_, rfl, rfl, rfl⟩
  · refine p_lift (a := .bl true) rfl ?_
    refine ⟨_, rfl, (fun _ => ?_), fun q => by cases q⟩
    refine p_rnot ?_
    refine p_as ?_
    refine p_cons ?_
    refine p_var rfl ?_
    refine p_cons ?_
    refine p_c ?_
    refine p_nil ?_
    refine p_lift (a := .bl true) rfl ?_
    exact ⟨_, rfl, rfl, rfl⟩
  · refine p_lift (a := .bl false) rfl ?_
    exact ⟨_, rfl, (fun q => by cases q), fun _ => ⟨rfl, rfl⟩⟩
  · refine p_lift (a := .bl false) rfl ?_
    exact ⟨_, rfl, (fun q => by cases q), fun _ => ⟨rfl, rfl⟩⟩
/-- a row of simple things -/
def rowOk (m : Nat) (d : D) : Bool := match d with
  | .tup xs => decide (xs.length = m) && xs.all isW
  | _ => false
inductive RowS : D → Prop
  | tup (xs : List D) : xs.length ≤ 1000 → (∀ x ∈ xs, Sim0 x) → RowS (.tup xs)
  | lst (xs : List D) : RowS (.lst xs)
  | int (i : Int) : RowS (.int i)
def sqB (ds : List D) : Bool := decide (1 ≤ ds.length) && decide (ds.length ≤ 6) && ds.all (rowOk ds.length)
theorem is_square_tup {ds : List D} (hr : ∀ d ∈ ds, RowS d) (hl : ds.length ≤ 1000) (S : Sto) (hS : Sane S) : m_is_square [.tup ds] S = .ok (.bl (sqB ds)) S := by
  have sl : 16000000 ≤ sizeLine := by decide
  obtain ⟨m, hm⟩ : ∃ m : Int, m = (ds.length : Int) := ⟨_, rfl⟩
  have hlen : ∀ S, gLen S [.tup ds] = some (.int m) := fun S => by rw [hm]; rfl
  refine m_defS hS rfl ?_
  show (b_is_square [some (.tup ds), none, none] S).post _ _ _ _
  unfold b_is_square
  refine s_seq ?_
  refine s_if ?_
  refine p_or ?_
  refine p_not ?_
  refine p_tru ?_
  refine p_as ?_
  refine p_cons ?_
  refine p_var rfl ?_
  refine p_cons ?_
  refine p_c ?_
  refine p_nil ?_
  refine p_lift (a := .bl true) rfl ?_
  refine ⟨(fun q => by cases q), fun _ => ?_⟩
  refine p_not ?_
  refine p_val ?_
  refine p_chain ?_
  refine p_c ?_
  refine p_as ?_
  refine p_cons ?_
  refine p_var rfl ?_
  refine p_nil ?_
  refine p_lift (hlen S) ?_
  refine ⟨decide (1 ≤ m), rfl, (fun q1 => ?_), fun q1 => ?_⟩
  · have q1 : 1 ≤ m := of_decide_eq_true q1
    refine p_c ?_
    refine p_lift (a := D.bl (decide (m ≤ 6))) rfl ?_
    refine ⟨decide (m ≤ 6), rfl, ?_⟩
    refine ⟨(fun q2 => ?_), fun q2 => ?_⟩
    · have q2 : ¬ m ≤ 6 := by
        intro h
        rw [decide_eq_true h] at q2
        cases q2
      refine s_ret ?_
      refine p_c ?_
      have e : sqB ds = false := by unfold sqB; rw [decide_eq_false (show ¬ ds.length ≤ 6 by omega), Bool.and_false, Bool.false_and]
      rw [e]
      exact ⟨rfl, rfl⟩
    · have q2 : m ≤ 6 := by
        refine Classical.byContradiction fun h => ?_
        rw [decide_eq_false h] at q2
        cases q2
      refine s_next ?_
      have e : sqB ds = ds.all (rowOk ds.length) := by unfold sqB; rw [decide_eq_true (show 1 ≤ ds.length by omega), decide_eq_true (show ds.length ≤ 6 by omega)]; rfl
      rw [e]
      clear e
      refine s_seq ?_
      refine s_for ?_
      refine p_seq ?_
      refine p_var rfl ?_
      refine .inr (.inl ⟨_, rfl, ?_⟩)
      refine s_forL (fun xs δ S2 => ∃ (o1 o2 : Option D), ds.all (rowOk ds.length) = xs.all (rowOk ds.length) ∧ (∀ x ∈ xs, RowS x) ∧ S2 = S ∧ δ = [some (.tup ds), o1, o2]) ?_ ?_ _ _ _ ⟨none, none, rfl, hr, rfl, rfl⟩
      · rintro x xs δ S2 ⟨o1, o2, hall, hrs, rfl, rfl⟩
        have hx := hrs x List.mem_cons_self
        refine Res.post.of_eq (show gName 1 x [some (.tup ds), o1, o2] S2 = .ok [some (.tup ds), some x, o2] S2 from rfl) ?_
        rw [List.all_cons] at hall
        have bad : rowOk ds.length x = false → (sRet (rC (.bl false)) [some (.tup ds), some x, o2] S2).post NoS (fun z S1 => z = D.bl (ds.all (rowOk ds.length)) ∧ S1 = S2) NoS NoS := fun hb => by
          refine s_ret ?_
          refine p_c ?_
          rw [hall, hb]
          exact ⟨rfl, rfl⟩
        refine s_if ?_
        refine p_or ?_
        refine p_not ?_
        refine p_tru ?_
        refine p_as ?_
        refine p_cons ?_
        refine p_var rfl ?_
        refine p_cons ?_
        refine p_c ?_
        refine p_nil ?_
        cases hx with
        | lst ys =>
          refine p_lift (a := .bl false) rfl ?_
          refine ⟨(fun _ => ?_), fun q => by cases q⟩
          refine ⟨(fun _ => ?_), fun q => by cases q⟩
          exact (bad rfl).mono (fun _ _ z => z.elim) (fun _ _ z => z) (fun _ _ z => z.elim) (fun _ _ z => z.elim)
        | int i =>
          refine p_lift (a := .bl false) rfl ?_
          refine ⟨(fun _ => ?_), fun q => by cases q⟩
          refine ⟨(fun _ => ?_), fun q => by cases q⟩
          exact (bad rfl).mono (fun _ _ z => z.elim) (fun _ _ z => z) (fun _ _ z => z.elim) (fun _ _ z => z.elim)
        | tup ys hyl hys =>
          refine p_lift (a := .bl true) rfl ?_
          refine ⟨(fun q => by cases q), fun _ => ?_⟩
          obtain ⟨yl, hyle⟩ : ∃ k : Int, k = (ys.length : Int) := ⟨_, rfl⟩
          refine p_or ?_
          refine p_val ?_
          refine p_bin ?_
          refine p_as ?_
          refine p_cons ?_
          refine p_var rfl ?_
          refine p_nil ?_
          refine p_lift (show gLen S2 [.tup ys] = some (.int yl) by rw [hyle]; rfl) ?_
          refine p_as ?_
          refine p_cons ?_
          refine p_var rfl ?_
          refine p_nil ?_
          refine p_lift (hlen S2) ?_
          refine o_neI ?_
          refine ⟨_, rfl, (fun q => ?_), fun q => ?_⟩
          · have q : ¬ yl = m := by simpa using q
            refine ⟨(fun _ => ?_), fun q => by cases q⟩
            exact (bad (show (decide (ys.length = ds.length) && _) = false by rw [decide_eq_false (show ¬ ys.length = ds.length by omega)]; rfl)).mono (fun _ _ z => z.elim) (fun _ _ z => z) (fun _ _ z => z.elim) (fun _ _ z => z.elim)
          · have q : yl = m := by simpa using q
            refine p_not ?_
            refine p_tru ?_
            refine p_as ?_
            refine p_cons ?_
            refine p_keep ?_
            refine lc_map (xs := ys) (ti := id) (f := fun y => D.bl (isW y)) (Nat.lt_of_succ_le (Nat.le_of_ble_eq_true rfl)) (exact_of ?_) hyl (fun y hy => exact_of ?_) ?_
            · refine p_seq ?_
              refine p_var rfl ?_
              rw [List.map_id]
              exact .inr (.inl ⟨_, rfl, rfl, rfl⟩)
            · dsimp only [wipeD, List.set_cons_zero, List.set_cons_succ, id]
              refine p_call ?_
              refine p_cons ?_
              refine p_var rfl ?_
              refine p_nil ?_
              exact Res.post.of_eq (whole_sim (hys y hy) S2 hS) ⟨rfl, rfl⟩
            refine ⟨_, rfl, ?_⟩
            refine p_nil ?_
            have e1 : D.lst (ys.map fun y => D.bl (isW y)) = .lst ((ys.map isW).map .bl) := by rw [List.map_map]; rfl
            rw [e1]
            refine o_all ?_
            have e2 : rowOk ds.length (.tup ys) = (ys.map isW).all id := by
              show (decide (ys.length = ds.length) && ys.all isW) = _
              rw [decide_eq_true (show ys.length = ds.length by omega), Bool.true_and, List.all_map]
              rfl
            refine ⟨(fun q => ?_), fun q => ?_⟩
            · have q : (ys.map isW).all id = false := by
                cases h : (ys.map isW).all id with
                | false => rfl
                | true => rw [h] at q; cases q
              exact (bad (by rw [e2]; exact q)).mono (fun _ _ z => z.elim) (fun _ _ z => z) (fun _ _ z => z.elim) (fun _ _ z => z.elim)
            · have q : (ys.map isW).all id = true := by
                cases h : (ys.map isW).all id with
                | true => rfl
                | false => rw [h] at q; cases q
              refine s_next ?_
              rw [e2, q, Bool.true_and] at hall
              exact ⟨_, _, hall, fun z hz => hrs z (List.mem_cons_of_mem _ hz), rfl, rfl⟩
      · rintro δ S2 ⟨o1, o2, hall, hrs, rfl, rfl⟩
        refine s_ret ?_
        refine p_c ?_
        rw [hall]
        exact ⟨rfl, rfl⟩
  · have q1 : ¬ 1 ≤ m := of_decide_eq_false q1
    refine ⟨false, rfl, ?_⟩
    refine ⟨(fun _ => ?_), fun q => by cases q⟩
    refine s_ret ?_
    refine p_c ?_
    have e : sqB ds = false := by unfold sqB; rw [decide_eq_false (show ¬ 1 ≤ ds.length by omega)]; rfl
    rw [e]
    exact ⟨rfl, rfl⟩
theorem is_square_odd {d : D} (S : Sto) (hS : Sane S) (h : gIsi S [d, .ty "tuple"] = some (.bl false)) : m_is_square [d] S = .ok (.bl false) S := by
  refine m_defS hS rfl ?_
  show (b_is_square [some d, none, none] S).post _ _ _ _
  unfold b_is_square
  refine s_seq ?_
  refine s_if ?_
  refine p_or ?_
  refine p_not ?_
  refine p_tru ?_
  refine p_as ?_
  refine p_cons ?_
  refine p_var rfl ?_
  refine p_cons ?_
  refine p_c ?_
  refine p_nil ?_
  refine p_lift h ?_
  refine ⟨(fun _ => ?_), fun q => by cases q⟩
  refine ⟨(fun _ => ?_), fun q => by cases q⟩
  refine s_ret ?_
  refine p_c ?_
  exact ⟨rfl, rfl⟩
end DL
set_option Elab.async false
set_option linter.all false
set_option maxRecDepth 100000
set_option maxHeartbeats 1000000
set_option autoImplicit false
namespace DL
open PySem L2
open Emb
local macro_rules | `(tactic| walk_at "1") => `(tactic| with_reducible first
  | refine s_seq ?_ | refine s_asg ?_ | refine s_ret ?_ | refine s_if ?_ | refine s_expr ?_ | refine s_next ?_ | refine s_brk ?_ | refine s_cont ?_ | refine s_for ?_ | refine s_while ?_
  | refine p_c ?_ | refine p_bin ?_ | refine p_as ?_ | refine p_cons ?_ | refine p_nil ?_ | refine p_un ?_ | refine p_call ?_ | refine p_if ?_ | refine p_own ?_
  | refine p_keep ?_ | refine p_tru ?_ | refine p_and ?_ | refine p_or ?_ | refine p_not ?_ | refine p_val ?_ | refine p_rand ?_ | refine p_ror ?_ | refine p_rnot ?_ | refine p_chain ?_ | refine p_bif ?_
  | refine o_add ?_ | refine o_sub ?_ | refine o_ltU ?_ | refine o_leU ?_ | refine o_gtU ?_ | refine o_geU ?_ | refine o_neg ?_ | refine o_eqI ?_ | refine o_neI ?_ | refine o_abs ?_ | refine o_tru ?_ | refine p_true ?_ | refine p_false ?_
  | refine o_lenT ?_ | refine o_lenL ?_ | refine o_ix0 ?_ | refine o_ix1 ?_ | refine o_ix2 ?_ | refine o_ix0L ?_ | refine o_ix1L ?_ | refine o_ix2L ?_
  | refine s_par ?_ | refine p_yes ?_ | refine p_seq ?_ | refine s_gnil ?_ | refine s_gcons ?_ | refine s_gtux ?_ | refine s_gtupl ?_ | refine p_onone ?_ | refine p_osome ?_ | refine p_get2 ?_ | refine s_putU ?_ | refine p_sortIt ?_)
local macro_rules | `(tactic| walk_at "2") => `(tactic| first
  | walk_at "1"
  | (with_reducible refine p_var2 ?_)
  | ((with_reducible refine s_name ?_ ?_); (· exact Nat.le_of_ble_eq_true rfl); dsimp only [List.set_cons_zero, List.set_cons_succ])
  | (with_reducible refine p_tup ?_) | (with_reducible refine p_lst ?_) | ((with_reducible refine ⟨?_, ?_⟩); (· exact Nat.le_of_ble_eq_true rfl))
  | ((with_reducible refine p_ex2 (x := ?_) (y := ?_) ?_ ?_); rotate_left; rotate_left; (· rfl); refine ⟨?_, ?_, ?_⟩; (· exact Nat.le_of_ble_eq_true rfl); (· exact Nat.le_of_ble_eq_true rfl); dsimp only [List.set_cons_zero, List.set_cons_succ])
  | ((with_reducible refine p_isT ?_ ?_); (· rfl)) | ((with_reducible refine p_isF ?_ ?_); (· rfl))
  | ((with_reducible refine p_ex (x := ?_) ?_ ?_); rotate_left; (· rfl)))
local macro_rules | `(tactic| walk_at "3") => `(tactic| repeat walk_at "2")
open PR
/-! ### drawn squares, and what is none -/
theorem lc_mv {α : Type} {td : α → D} {i j : Nat} {e : RE} {items : List D} {δ : Sl} {S : Sto} {Q : D → Sto → Prop} {it : RA} {P : α → Prop} (hi : i < δ.length) (hit : it δ S = .ok items S) (hn : items.length ≤ 1000) (hS : Sane S) (hj : Dr S j)
    (he : ∀ x ∈ items, ∀ S1, Sane S1 → Dr S1 j → (e ((wipeD δ [i]).set i (some x)) S1).post fun z S2 => (∃ v : α, z = td v ∧ P v) ∧ Mv j S1 S2)
    (q : ∀ (R : List α) (S2 : Sto), R.length = items.length → (∀ v ∈ R, P v) → Mv j S S2 → Q (.lst (R.map td)) S2) : (rLc it (gName i) [i] bYes e δ S).post Q := by
  have sl : 16000000 ≤ sizeLine := by decide
  with_reducible refine p_lc ?_
  refine Res.post.of_eq hit ?_
  with_reducible refine Res.post.mono (p_lcL (fun xs acc T => ∃ R : List α, acc = R.map td ∧ R.length + xs.length = items.length ∧ (∀ x ∈ xs, x ∈ items) ∧ (∀ v ∈ R, P v) ∧ Mv j S T) ?_ _ [] S ?_) ?_
  · rintro x xs acc T ⟨R, rfl, hl, hm, hR, mv⟩
    rw [List.length_cons] at hl
    refine Res.post.of_eq (show gName i x (wipeD δ [i]) T = .ok ((wipeD δ [i]).set i (some x)) T from by
      unfold gName
      rw [if_pos (by rw [wipe_len]; exact hi)]) ?_
    refine Res.post.of_eq (show bYes _ T = .ok true T from rfl) ⟨fun _ => ?_, fun z => nomatch z⟩
    refine (he x (hm x List.mem_cons_self) T (mv.sane hS) (mv.dr hj)).mono ?_
    rintro z T2 ⟨⟨v, rfl, pv⟩, mv2⟩
    refine ⟨R ++ [v], by rw [List.map_append]; rfl, by rw [List.length_append]; show R.length + 1 + xs.length = _; omega, fun y hy => hm y (List.mem_cons_of_mem _ hy), fun w hw => ?_, mv.trans mv2⟩
    rcases List.mem_append.mp hw with h | h
    · exact hR w h
    · rw [List.mem_singleton.mp h]; exact pv
  · exact ⟨[], rfl, by simp, (fun _ h => h), (fun _ h => nomatch h), Mv.refl hj⟩
  · rintro ys T ⟨R, e, hl, _, hR, mv⟩
    rw [List.nil_append] at e
    subst e
    have hl : R.length = items.length := by simpa using hl
    exact ⟨by rw [List.length_map]; omega, q R T hl hR mv⟩
def mtOf (n : Nat) (Rs : List (List Int)) : Mt := fun i j => if i < n ∧ j < n then ((Rs[i]?).getD []).getD j 0 else 0
theorem mtOf_sq {n : Nat} {Rs : List (List Int)} (hl : Rs.length = n) (hr : ∀ R ∈ Rs, R.length = n) : D.tup (Rs.map fun R => D.tup (R.map .int)) = sqD n (mtOf n Rs) := by
  unfold sqD
  congr 1
  refine List.ext_getElem? fun i => ?_
  rw [List.getElem?_map, List.getElem?_map]
  by_cases h : i < n
  · have hi : i < Rs.length := by omega
    have hRl := hr _ (List.getElem_mem hi)
    rw [List.getElem?_eq_getElem hi, List.getElem?_range h]
    show some (D.tup (Rs[i].map .int)) = some (rowD' n (mtOf n Rs) i)
    unfold rowD' rowN
    congr 2
    refine List.ext_getElem? fun j => ?_
    rw [List.getElem?_map, List.getElem?_map]
    by_cases g : j < n
    · rw [List.getElem?_range g, List.getElem?_eq_getElem (show j < Rs[i].length by omega)]
      show some (D.int Rs[i][j]) = some (D.int (mtOf n Rs i j))
      unfold mtOf
      rw [if_pos ⟨h, g⟩, List.getElem?_eq_getElem hi, List.getD_eq_getElem?_getD]
      show some (D.int Rs[i][j]) = some (D.int ((Rs[i][j]?).getD 0))
      rw [List.getElem?_eq_getElem (show j < Rs[i].length by omega)]
      rfl
    · rw [List.getElem?_eq_none (by omega), List.getElem?_eq_none (by rw [List.length_range]; omega)]
      rfl
  · rw [List.getElem?_eq_none (by omega), List.getElem?_eq_none (by rw [List.length_range]; omega)]
    rfl
theorem mtOf_cl (n : Nat) (Rs : List (List Int)) : Cl n (mtOf n Rs) := fun i j h => if_neg h
theorem mtOf_bd {n : Nat} {Rs : List (List Int)} (hr : ∀ R ∈ Rs, ∀ v ∈ R, v.natAbs ≤ 10 ^ 40) : Bd40 (mtOf n Rs) := fun i j => by
  unfold mtOf
  split
  · cases e : Rs[i]? with
    | none => exact Nat.zero_le _
    | some R =>
      show (R.getD j 0).natAbs ≤ _
      rw [List.getD_eq_getElem?_getD]
      cases e2 : R[j]? with
      | none => exact Nat.zero_le _
      | some v => exact hr R (List.mem_of_getElem? e) v (List.mem_of_getElem? e2)
  · exact Nat.zero_le _
def SqZ (n : Nat) (z : D) : Prop := ∃ A : Mt, z = sqD n A ∧ Cl n A ∧ Bd40 A
theorem numbers_spec {j n : Nat} (hn : n ≤ 6) {nn : Int} (hnn : nn = (n : Int)) (S : Sto) (hS : Sane S) (hj : Dr S j) : (m__law_numbers [.ptr j, .int nn] S).post fun z S' => SqZ n z ∧ Mv j S S' := by
  have sl : 16000000 ≤ sizeLine := by decide
  refine m_defM hS (fun z ⟨A, e, _⟩ => by subst e; exact sqD_closed) ?_
  show (b__law_numbers [some (.ptr j), some (.int nn), none, none, none] S).post _ _ _ _
  unfold b__law_numbers
  have hrg : rangeD 0 nn = (List.range n).map fun i : Nat => D.int (i : Int) := by rw [hnn]; exact rangeD_nat n
  have hrl : (rangeD 0 nn).length = n := by rw [hrg, List.length_map, List.length_range]
  refine s_seq ?_
  refine s_asg ?_
  refine p_bin ?_
  refine p_keep ?_
  refine p_lst ?_
  refine p_cons ?_
  refine p_c ?_
  refine p_cons ?_
  refine p_c ?_
  refine p_cons ?_
  refine p_c ?_
  refine p_cons ?_
  refine p_c ?_
  refine p_cons ?_
  refine p_bin ?_
  refine p_c ?_
  refine p_c ?_
  refine pow6 (δ := []) (n := 40) (by decide) ?_
  refine p_nil ?_
  refine ⟨Nat.le_of_ble_eq_true rfl, ?_⟩
  refine ⟨_, rfl, ?_⟩
  refine p_call ?_
  refine p_cons ?_
  refine p_var rfl ?_
  refine p_cons ?_
  refine p_c ?_
  refine p_nil ?_
  refine (lnext_spec (b := 5) (by decide) (by decide) S hS hj).mono ?_
  rintro z S1 ⟨⟨i, rfl, i0, i1⟩, mv1⟩
  refine ix_any (ns := [1, 2, 9, 99, 10 ^ 40]) i0 (by exact i1) fun most hm => ?_
  have hm : 0 < most ∧ most ≤ 10 ^ 40 := by
    simp only [List.mem_cons, List.not_mem_nil, or_false] at hm
    rcases hm with rfl | rfl | rfl | rfl | rfl <;> decide
  refine s_name (Nat.le_of_ble_eq_true rfl) ?_
  dsimp only [List.set_cons_zero, List.set_cons_succ]
  have hS1 := mv1.sane hS
  have hj1 := mv1.dr hj
  have hit : ∀ (δ : Sl) (T : Sto), δ[1]? = some (some (.int nn)) → rRange (rCons (rVar 1) rNil) δ T = .ok (rangeD 0 nn) T := fun δ T h => exact_of (by
    refine p_range1 ?_
    refine p_cons ?_
    refine p_var h ?_
    refine p_nil ?_
    exact ⟨_, rfl, by omega, by omega, rfl, rfl⟩)
  refine s_ret ?_
  refine p_as ?_
  refine p_cons ?_
  refine p_keep ?_
  refine lc_mv (td := fun R : List Int => D.tup (R.map .int)) (P := fun R => R.length = n ∧ ∀ v ∈ R, v.natAbs ≤ 10 ^ 40) (Nat.lt_of_succ_le (Nat.le_of_ble_eq_true rfl)) (hit _ _ rfl) (by omega) hS1 hj1 (fun x hx T hT hjT => ?_) fun Rs S2 hl hR mv2 => ?_
  · dsimp only [wipeD, List.set_cons_zero, List.set_cons_succ]
    refine p_as ?_
    refine p_cons ?_
    refine p_keep ?_
    refine lc_mv (td := D.int) (P := fun v => v.natAbs ≤ 10 ^ 40) (Nat.lt_of_succ_le (Nat.le_of_ble_eq_true rfl)) (hit _ _ rfl) (by omega) hT hjT (fun y hy T2 hT2 hjT2 => ?_) fun R T2 hl hR mv3 => ?_
    · dsimp only [wipeD, List.set_cons_zero, List.set_cons_succ]
      refine p_call ?_
      refine p_cons ?_
      refine p_var rfl ?_
      refine p_cons ?_
      refine p_var rfl ?_
      refine p_nil ?_
      refine (laround_spec hm.1 hm.2 T2 hT2 hjT2).mono ?_
      rintro z T3 ⟨⟨v, rfl, v0, v1⟩, mv4⟩
      exact ⟨⟨v, rfl, by omega⟩, mv4⟩
    · refine ⟨_, rfl, ?_⟩
      refine p_nil ?_
      refine p_lift (show gTuple _ [.lst (R.map D.int)] = some (.tup (R.map D.int)) from rfl) ?_
      exact ⟨⟨R, rfl, by omega, hR⟩, mv3⟩
  · refine ⟨_, rfl, ?_⟩
    refine p_nil ?_
    refine p_lift (show gTuple _ [.lst (Rs.map fun R => D.tup (R.map .int))] = some (.tup (Rs.map fun R => D.tup (R.map .int))) from rfl) ?_
    exact ⟨⟨mtOf n Rs, mtOf_sq (by omega) fun R hR2 => (hR R hR2).1, mtOf_cl n Rs, mtOf_bd fun R hR2 => (hR R hR2).2⟩, mv1.trans mv2⟩
end DL
set_option Elab.async false
set_option linter.all false
set_option maxRecDepth 100000
set_option maxHeartbeats 1000000
set_option autoImplicit false
namespace DL
open PySem L2
open Emb
local macro_rules | `(tactic| walk_at "1") => `(tactic| with_reducible first
  | refine s_seq ?_ | refine s_asg ?_ | refine s_ret ?_ | refine s_if ?_ | refine s_expr ?_ | refine s_next ?_ | refine s_brk ?_ | refine s_cont ?_ | refine s_for ?_ | refine s_while ?_
  | refine p_c ?_ | refine p_bin ?_ | refine p_as ?_ | refine p_cons ?_ | refine p_nil ?_ | refine p_un ?_ | refine p_call ?_ | refine p_if ?_ | refine p_own ?_
  | refine p_keep ?_ | refine p_tru ?_ | refine p_and ?_ | refine p_or ?_ | refine p_not ?_ | refine p_val ?_ | refine p_rand ?_ | refine p_ror ?_ | refine p_rnot ?_ | refine p_chain ?_ | refine p_bif ?_
  | refine o_add ?_ | refine o_sub ?_ | refine o_ltU ?_ | refine o_leU ?_ | refine o_gtU ?_ | refine o_geU ?_ | refine o_neg ?_ | refine o_eqI ?_ | refine o_neI ?_ | refine o_abs ?_ | refine o_tru ?_ | refine p_true ?_ | refine p_false ?_
  | refine o_lenT ?_ | refine o_lenL ?_ | refine o_ix0 ?_ | refine o_ix1 ?_ | refine o_ix2 ?_ | refine o_ix0L ?_ | refine o_ix1L ?_ | refine o_ix2L ?_
  | refine s_par ?_ | refine p_yes ?_ | refine p_seq ?_ | refine s_gnil ?_ | refine s_gcons ?_ | refine s_gtux ?_ | refine s_gtupl ?_ | refine p_onone ?_ | refine p_osome ?_ | refine p_get2 ?_ | refine s_putU ?_ | refine p_sortIt ?_)
local macro_rules | `(tactic| walk_at "2") => `(tactic| first
  | walk_at "1"
  | (with_reducible refine p_var2 ?_)
  | ((with_reducible refine s_name ?_ ?_); (· exact Nat.le_of_ble_eq_true rfl); dsimp only [List.set_cons_zero, List.set_cons_succ])
  | (with_reducible refine p_tup ?_) | (with_reducible refine p_lst ?_) | ((with_reducible refine ⟨?_, ?_⟩); (· exact Nat.le_of_ble_eq_true rfl))
  | ((with_reducible refine p_ex2 (x := ?_) (y := ?_) ?_ ?_); rotate_left; rotate_left; (· rfl); refine ⟨?_, ?_, ?_⟩; (· exact Nat.le_of_ble_eq_true rfl); (· exact Nat.le_of_ble_eq_true rfl); dsimp only [List.set_cons_zero, List.set_cons_succ])
  | ((with_reducible refine p_isT ?_ ?_); (· rfl)) | ((with_reducible refine p_isF ?_ ?_); (· rfl))
  | ((with_reducible refine p_ex (x := ?_) ?_ ?_); rotate_left; (· rfl)))
local macro_rules | `(tactic| walk_at "3") => `(tactic| repeat walk_at "2")
open PR
/-! ### what is no square -/
def NB (z : D) : Prop := (∀ m, D.closed m z = true) ∧ ∀ T, Sane T → m_is_square [z] T = .ok (.bl false) T
def GR (n : Nat) (d : D) : Prop := ∃ row : List Int, row.length = n ∧ d = .tup (row.map .int)
theorem gr_row {n : Nat} (hn : n ≤ 6) {d : D} (h : GR n d) : RowS d := by
  obtain ⟨row, hl, rfl⟩ := h
  exact .tup _ (by rw [List.length_map]; omega) fun x hx => by
    obtain ⟨i, _, rfl⟩ := List.mem_map.mp hx
    exact .inl ⟨i, rfl⟩
theorem gr_closed {n : Nat} {d : D} (h : GR n d) (m : Nat) : D.closed m d = true := by
  obtain ⟨row, _, rfl⟩ := h
  exact closed_ints' _
theorem sqB_bad {ds : List D} {d : D} (hd : d ∈ ds) (hb : rowOk ds.length d = false) : sqB ds = false := by
  unfold sqB
  rw [List.all_eq_false.mpr ⟨d, hd, by rw [hb]; decide⟩, Bool.and_false]
theorem nb_tup {ds : List D} (hr : ∀ d ∈ ds, RowS d) (hl : ds.length ≤ 1000) (hc : ∀ m, ∀ d ∈ ds, D.closed m d = true) (hb : sqB ds = false) : NB (.tup ds) :=
  ⟨fun m => closedL_all (hc m), fun T hT => by rw [is_square_tup hr hl T hT, hb]⟩
theorem nb_odd {d : D} (hc : ∀ m, D.closed m d = true) (h : ∀ S, gIsi S [d, .ty "tuple"] = some (.bl false)) : NB d := ⟨hc, fun T hT => is_square_odd T hT (h T)⟩
theorem p_addT {S : Sto} {a b : List D} {Q : D → Sto → Prop} (hl : a.length + b.length ≤ 1000) (h : Q (.tup (a ++ b)) S) : (Res.lift (gAdd S (.tup a) (.tup b)) S).post Q := p_lift (by
  have sl : 16000000 ≤ sizeLine := by decide
  unfold gAdd deref
  dsimp only
  rw [if_pos (by omega)]) h
theorem p_catP {S : Sto} {k : Nat} {a b : List D} {Q : D → Sto → Prop} (hk : S[k]? = some (.lst a)) (hl : a.length + b.length ≤ 1000) (h : Q (.lst (a ++ b)) S) : (Res.lift (gCat S (.ptr k) (.lst b)) S).post Q := p_lift (by
  have sl : 16000000 ≤ sizeLine := by decide
  unfold gCat
  rw [deref_lst hk]
  unfold deref
  dsimp only
  rw [if_pos (by omega)]) h
theorem cut_last {A : Type} (xs : List A) : (∀ x ∈ cutD xs none (some (-1)), x ∈ xs) ∧ (cutD xs none (some (-1))).length ≤ xs.length := by
  unfold cutD
  exact ⟨fun x hx => List.mem_of_mem_drop (List.mem_of_mem_take hx), Nat.le_trans (List.length_take_le' _ _) (by rw [List.length_drop]; omega)⟩
/-- the def that tells something: what it tells is no square -/
theorem m_defN {n j : Nat} {b : RS} {ds : List D} {S : Sto} (hS : Sane S) (h : (b (ds.map some ++ List.replicate (n - ds.length) none) S).post NoS (fun z S1 => (∃ T W, Mv j S T ∧ S1 = T ++ W) ∧ (NB z ∨ ∃ k, z = .ptr k ∧ S.length ≤ k ∧ S1[k]? = some (.dct []))) NoS NoS) :
    (mDef n b ds S).post fun z S' => (∃ T W, Mv j S T ∧ S' = T ++ W) ∧ Sane S' ∧ m_is_square [z] S' = .ok (.bl false) S' := by
  obtain ⟨z, S1, e, ⟨T, W, hm, hw⟩, hz⟩ := ret_ex h
  have htk : S1.take S.length = T := by rw [hw, ← hm.len, List.take_append_of_le_length (Nat.le_refl _), List.take_length]
  have hT := hm.sane hS
  have hcl : closedL S.length T = true := by
    unfold Sane at hT
    rw [hm.len] at hT
    exact hT
  unfold mDef
  rw [e]
  dsimp only
  rw [htk, hcl]
  rcases hz with hz | ⟨k, rfl, hk, hk2⟩
  · rw [hz.1 S.length]
    exact ⟨⟨T, [], hm, (List.append_nil T).symm⟩, hT, hz.2 T hT⟩
  · have e1 : D.closed S.length (.ptr k) = false := by
      show decide (k < S.length) = false
      exact decide_eq_false (by omega)
    rw [e1]
    unfold giveD
    dsimp only
    rw [hk2]
    dsimp only
    rw [htk, hcl, decide_eq_true hk]
    have hS' : Sane (T ++ [.dct []]) := sane_app hT rfl
    refine ⟨⟨T, [.dct []], hm, rfl⟩, hS', is_square_odd _ hS' ?_⟩
    unfold gIsi tyName
    dsimp only
    have hg : (T ++ [D.dct []])[S.length]? = some (.dct []) := by rw [← hm.len]; exact get_app
    have hd : deref (T ++ [D.dct []]) (.ptr S.length) = .dct [] := by
      unfold deref
      dsimp only
      rw [List.getD_eq_getElem?_getD, hg]
      rfl
    rw [hd]
    rfl
def nsTail2 : RS := (sSeq (sAsg (rOwn (rBin gCat (rVar 3) (rKeep (rLst (rCons (rBin gAdd (rCut (rVar 1) oNone (oSome (rUn gNeg (rC (.int 1))))) (rTup (rCons (rKeep (rAs gList (rCons (rVar 2) rNil))) rNil))) (rCons (rBin gAdd (rCut (rVar 1) oNone (oSome (rUn gNeg (rC (.int 1))))) (rTup (rCons (rBin gAdd (rCut (rVar 2) oNone (oSome (rUn gNeg (rC (.int 1))))) (rTup (rCons (rC (.str "1")) rNil))) rNil))) (rCons (rBin gAdd (rCut (rVar 1) oNone (oSome (rUn gNeg (rC (.int 1))))) (rTup (rCons (rBin gAdd (rCut (rVar 2) oNone (oSome (rUn gNeg (rC (.int 1))))) (rTup (rCons (rC .non) rNil))) rNil))) rNil))))))) (gName 3)) (sSeq (sExpr (rMeth "list" mAppend (rVar 3) (rCons (rAs gTuple (rCons (rKeep (rLc (rRange (rCons (rC (.int 7)) rNil)) (gName 5) [5] bYes (rAs gTuple (rCons (rKeep (rBin gRepF (rLst (rCons (rC (.int 0)) rNil)) (rC (.int 7)))) rNil)))) rNil)) rNil))) (sRet (rBin gIx (rVar 3) (rCall m__law_next (rCons (rVar 0) (rCons (rAs gLen (rCons (rVar 3) rNil)) rNil)))))))
def nsTail : RS := (sSeq (sAsg (rOwn (rBin gCat (rVar 3) (rKeep (rLst (rCons (rAs gTuple (rCons (rKeep (rLc (rSeq (rVar 1)) (gName 4) [4] bYes (rBin gAdd (rVar 4) (rTup (rCons (rC (.int 0)) rNil))))) rNil)) (rCons (rBin gAdd (rCut (rVar 1) oNone (oSome (rUn gNeg (rC (.int 1))))) (rTup (rCons (rBin gAdd (rCut (rVar 2) oNone (oSome (rUn gNeg (rC (.int 1))))) (rTup (rCons (rC (.bl true)) rNil))) rNil))) (rCons (rVar 2) (rCons (rTup (rCons (rTup (rCons (rC (.int 1)) (rCons (rC (.int 0)) rNil))) rNil)) (rCons (rC (.bl true)) rNil))))))))) (gName 3)) nsTail2)
theorem b_ns_eq : b__law_no_square = (sSeq (sAsg (rBin gIx (rVar 1) (rC (.int 0))) (gName 2)) (sSeq (sAsg (rOwn (rLst (rCons (rC .non) (rCons (rC (.int 5)) (rCons (rTup rNil) (rCons (rC (.str "square")) (rCons (rKeep (rLc (rSeq (rVar 1)) (gName 4) [4] bYes (rKeep (rAs gList (rCons (rVar 4) rNil))))) (rCons (rKeep (rAs gList (rCons (rVar 1) rNil))) (rCons (rOwn (rC (.dct []))) (rCons (rBin gAdd (rVar 1) (rTup (rCons (rVar 2) rNil))) (rCons (rBin gAdd (rCut (rVar 1) (oSome (rC (.int 1))) oNone) (rTup (rCons (rTup rNil) rNil))) rNil))))))))))) (gName 3)) nsTail)) := rfl
/-- the last three and the one beyond, and what is picked -/
def QN (j : Nat) (S : Sto) (z : D) (S1 : Sto) : Prop := (∃ T W, Mv j S T ∧ S1 = T ++ W) ∧ (NB z ∨ ∃ k, z = .ptr k ∧ S.length ≤ k ∧ S1[k]? = some (.dct []))
theorem rep7 : gRepF ([] : Sto) (.lst [.int 0]) (.int 7) = some (.lst ((List.replicate 7 (0 : Int)).map .int)) := rfl
def z7 : List D := List.replicate 7 (.tup ((List.replicate 7 (0 : Int)).map .int))
theorem sqB_z7 : sqB z7 = false := rfl
section
variable {j n k3 : Nat} {S S2 : Sto} {ds L : List D} {r0 : List Int}
theorem nsTail2_spec (hn : n ≤ 6) (h1 : 1 ≤ n) (hS : Sane S) (hj : Dr S j) (hdl : ds.length = n) (hgr : ∀ d ∈ ds, GR n d) (hr0l : r0.length = n) (hS2 : Sane S2) (hW : ∃ W, S2 = S ++ W) (hd : S2[S.length]? = some (.dct [])) (hk : S2[k3]? = some (.lst L)) (hLl : L.length = 14) (hLm : ∀ z ∈ L, NB z ∨ z = .ptr S.length) {o4 o5 : Option D} :
    (nsTail2 [some (.ptr j), some (.tup ds), some (.tup (r0.map .int)), some (.ptr k3), o4, o5] S2).post NoS (QN j S) NoS NoS := by
  have sl : 16000000 ≤ sizeLine := by decide
  obtain ⟨hc1, hc2⟩ := cut_last ds
  obtain ⟨hc3, hc4⟩ := cut_last (r0.map D.int)
  have hlr : (r0.map D.int).length = n := by rw [List.length_map]; exact hr0l
  have hg0 : GR n (.tup (r0.map .int)) := ⟨r0, hr0l, rfl⟩
  have hsim : ∀ x ∈ cutD (r0.map D.int) none (some (-1)), Sim0 x := fun x hx => by
    obtain ⟨i, _, rfl⟩ := List.mem_map.mp (hc3 x hx)
    exact .inl ⟨i, rfl⟩
  have hcl0 : ∀ m, ∀ x ∈ cutD (r0.map D.int) none (some (-1)), D.closed m x = true := fun m x hx => by
    obtain ⟨i, _, rfl⟩ := List.mem_map.mp (hc3 x hx)
    rfl
  -- a row with a simple thing behind
  have odd : ∀ y : D, Sim0 y → isW y = false → (∀ m, D.closed m y = true) → NB (.tup (cutD ds none (some (-1)) ++ [.tup (cutD (r0.map D.int) none (some (-1)) ++ [y])])) := fun y hy hw hyc => nb_tup (fun d hd => by
      rcases List.mem_append.mp hd with g | g
      · exact gr_row hn (hgr d (hc1 d g))
      · rw [List.mem_singleton.mp g]
        exact .tup _ (by rw [List.length_append]; show _ + 1 ≤ 1000; omega) fun x hx => by
          rcases List.mem_append.mp hx with h | h
          · exact hsim x h
          · rw [List.mem_singleton.mp h]; exact hy) (by rw [List.length_append]; show _ + 1 ≤ 1000; omega) (fun m d hd => by
      rcases List.mem_append.mp hd with g | g
      · exact gr_closed (hgr d (hc1 d g)) m
      · rw [List.mem_singleton.mp g]
        exact closedL_all fun x hx => by
          rcases List.mem_append.mp hx with h | h
          · exact hcl0 m x h
          · rw [List.mem_singleton.mp h]; exact hyc m) (sqB_bad (d := .tup (cutD (r0.map D.int) none (some (-1)) ++ [y])) (List.mem_append_right _ List.mem_cons_self) (by
      show (decide _ && (cutD (r0.map D.int) none (some (-1)) ++ [y]).all isW) = false
      rw [List.all_append, List.all_cons, hw, Bool.false_and, Bool.and_false, Bool.and_false]))
  have nl : NB (.tup (cutD ds none (some (-1)) ++ [.lst (r0.map D.int)])) := nb_tup (fun d hd => by
      rcases List.mem_append.mp hd with g | g
      · exact gr_row hn (hgr d (hc1 d g))
      · rw [List.mem_singleton.mp g]; exact .lst _) (by rw [List.length_append]; show _ + 1 ≤ 1000; omega) (fun m d hd => by
      rcases List.mem_append.mp hd with g | g
      · exact gr_closed (hgr d (hc1 d g)) m
      · rw [List.mem_singleton.mp g]; exact closed_ints' _) (sqB_bad (d := .lst (r0.map D.int)) (List.mem_append_right _ List.mem_cons_self) rfl)
  have n1 := odd (.str "1") (.inr (.inr (.inl rfl))) rfl fun _ => rfl
  have n2 := odd .non (.inr (.inr (.inr rfl))) rfl fun _ => rfl
  have n17 : NB (.tup z7) := nb_tup (fun d hd => by
      rw [List.eq_of_mem_replicate hd]
      exact .tup _ (by decide) fun x hx => by
        obtain ⟨i, _, rfl⟩ := List.mem_map.mp hx
        exact .inl ⟨i, rfl⟩) (by decide) (fun m d hd => by rw [List.eq_of_mem_replicate hd]; exact closed_ints' _) sqB_z7
  generalize r0.map D.int = R0 at *
  generalize hcd : cutD ds none (some (-1)) = cd at *
  generalize hcr : cutD R0 none (some (-1)) = cr at *
  unfold nsTail2
  refine s_seq ?_
  refine s_asg ?_
  refine p_own ?_
  refine p_bin ?_
  refine p_var rfl ?_
  refine p_keep ?_
  refine p_lst ?_
  refine p_cons ?_
  refine p_bin ?_
  refine p_cutT ?_
  refine p_var rfl ?_
  refine p_onone ?_
  refine p_osome ?_
  refine p_un ?_
  refine p_c ?_
  refine p_lift (show gNeg S2 (.int 1) = some (.int (-1)) from rfl) ?_
  refine ⟨_, rfl, ?_⟩
  refine ⟨_, rfl, ?_⟩
  rw [hcd]
  refine p_tup ?_
  refine p_cons ?_
  refine p_keep ?_
  refine p_as ?_
  refine p_cons ?_
  refine p_var rfl ?_
  refine p_nil ?_
  refine p_lift (show gList S2 [.tup R0] = some (.lst R0) from rfl) ?_
  refine ⟨_, rfl, ?_⟩
  refine p_nil ?_
  refine ⟨Nat.le_of_ble_eq_true rfl, ?_⟩
  refine p_addT (by show cd.length + 1 ≤ 1000; omega) ?_
  refine p_cons ?_
  refine p_bin ?_
  refine p_cutT ?_
  refine p_var rfl ?_
  refine p_onone ?_
  refine p_osome ?_
  refine p_un ?_
  refine p_c ?_
  refine p_lift (show gNeg S2 (.int 1) = some (.int (-1)) from rfl) ?_
  refine ⟨_, rfl, ?_⟩
  refine ⟨_, rfl, ?_⟩
  rw [hcd]
  refine p_tup ?_
  refine p_cons ?_
  refine p_bin ?_
  refine p_cutT ?_
  refine p_var rfl ?_
  refine p_onone ?_
  refine p_osome ?_
  refine p_un ?_
  refine p_c ?_
  refine p_lift (show gNeg S2 (.int 1) = some (.int (-1)) from rfl) ?_
  refine ⟨_, rfl, ?_⟩
  refine ⟨_, rfl, ?_⟩
  rw [hcr]
  refine p_tup ?_
  refine p_cons ?_
  refine p_c ?_
  refine p_nil ?_
  refine ⟨Nat.le_of_ble_eq_true rfl, ?_⟩
  refine p_addT (by show cr.length + 1 ≤ 1000; omega) ?_
  refine p_nil ?_
  refine ⟨Nat.le_of_ble_eq_true rfl, ?_⟩
  refine p_addT (by show cd.length + 1 ≤ 1000; omega) ?_
  refine p_cons ?_
  refine p_bin ?_
  refine p_cutT ?_
  refine p_var rfl ?_
  refine p_onone ?_
  refine p_osome ?_
  refine p_un ?_
  refine p_c ?_
  refine p_lift (show gNeg S2 (.int 1) = some (.int (-1)) from rfl) ?_
  refine ⟨_, rfl, ?_⟩
  refine ⟨_, rfl, ?_⟩
  rw [hcd]
  refine p_tup ?_
  refine p_cons ?_
  refine p_bin ?_
  refine p_cutT ?_
  refine p_var rfl ?_
  refine p_onone ?_
  refine p_osome ?_
  refine p_un ?_
  refine p_c ?_
  refine p_lift (show gNeg S2 (.int 1) = some (.int (-1)) from rfl) ?_
  refine ⟨_, rfl, ?_⟩
  refine ⟨_, rfl, ?_⟩
  rw [hcr]
  refine p_tup ?_
  refine p_cons ?_
  refine p_c ?_
  refine p_nil ?_
  refine ⟨Nat.le_of_ble_eq_true rfl, ?_⟩
  refine p_addT (by show cr.length + 1 ≤ 1000; omega) ?_
  refine p_nil ?_
  refine ⟨Nat.le_of_ble_eq_true rfl, ?_⟩
  refine p_addT (by show cd.length + 1 ≤ 1000; omega) ?_
  refine p_nil ?_
  refine ⟨Nat.le_of_ble_eq_true rfl, ?_⟩
  refine ⟨_, rfl, ?_⟩
  refine p_catP hk (by show L.length + 3 ≤ 1000; omega) ?_
  obtain ⟨L2, hL2⟩ : ∃ L2, L2 = L ++ [.tup (cd ++ [.lst R0]), .tup (cd ++ [.tup (cr ++ [.str "1"])]), .tup (cd ++ [.tup (cr ++ [.non])])] := ⟨_, rfl⟩
  have hL2l : L2.length = 17 := by rw [hL2, List.length_append, hLl]; rfl
  have hL2m : ∀ z ∈ L2, NB z ∨ z = .ptr S.length := fun z hz => by
    rw [hL2] at hz
    rcases List.mem_append.mp hz with g | g
    · exact hLm z g
    · simp only [List.mem_cons, List.not_mem_nil, or_false] at g
      rcases g with rfl | rfl | rfl
      · exact .inl nl
      · exact .inl n1
      · exact .inl n2
  rw [← hL2]
  refine s_name (Nat.le_of_ble_eq_true rfl) ?_
  dsimp only [List.set_cons_zero, List.set_cons_succ]
  refine s_seq ?_
  refine s_expr ?_
  refine p_append2 rfl get_app ?_
  refine p_as ?_
  refine p_cons ?_
  refine p_keep ?_
  refine lc_map (xs := List.range 7) (ti := fun i : Nat => D.int (i : Int)) (f := fun _ => D.tup ((List.replicate 7 (0 : Int)).map .int)) (Nat.lt_of_succ_le (Nat.le_of_ble_eq_true rfl)) (exact_of ?_) (by decide) (fun a ha => exact_of ?_) ?_
  · refine p_range1 ?_
    refine p_cons ?_
    refine p_c ?_
    refine p_nil ?_
    exact ⟨_, rfl, by decide, by decide, rfl, rfl⟩
  · generalize D.int (a : Int) = da
    dsimp only [wipeD, List.set_cons_zero, List.set_cons_succ]
    refine p_as ?_
    refine p_cons ?_
    refine p_keep ?_
    refine p_bin ?_
    refine p_lst ?_
    refine p_cons ?_
    refine p_c ?_
    refine p_nil ?_
    refine ⟨Nat.le_of_ble_eq_true rfl, ?_⟩
    refine p_c ?_
    refine p_lift (show gRepF _ (.lst [.int 0]) (.int 7) = some (.lst ((List.replicate 7 (0 : Int)).map .int)) from rep7) ?_
    refine ⟨_, rfl, ?_⟩
    refine p_nil ?_
    exact p_lift (show gTuple _ [.lst ((List.replicate 7 (0 : Int)).map D.int)] = some (.tup ((List.replicate 7 (0 : Int)).map .int)) from rfl) ⟨rfl, rfl⟩
  refine ⟨_, rfl, ?_⟩
  refine p_nil ?_
  have e7 : ((List.range 7).map fun _ => D.tup ((List.replicate 7 (0 : Int)).map .int)) = z7 := rfl
  rw [e7]
  generalize z7 = zz at *
  refine p_lift (show gTuple _ [.lst zz] = some (.tup zz) from rfl) ?_
  refine ⟨_, get_app, by omega, ?_⟩
  rw [set_app]
  obtain ⟨L3, hL3⟩ : ∃ L3, L3 = L2 ++ [.tup zz] := ⟨_, rfl⟩
  have hL3l : L3.length = 18 := by rw [hL3, List.length_append, hL2l]; rfl
  have hL3m : ∀ z ∈ L3, NB z ∨ z = .ptr S.length := fun z hz => by
    rw [hL3] at hz
    rcases List.mem_append.mp hz with g | g
    · exact hL2m z g
    · rw [List.mem_singleton.mp g]; exact .inl n17
  rw [← hL3]
  obtain ⟨W, rfl⟩ := hW
  have hWne : 1 ≤ W.length := by
    have := (List.getElem?_eq_some_iff.mp hd).1
    rw [List.length_append] at this
    omega
  have hlt : S.length < (S ++ W).length := by rw [List.length_append]; omega
  have hjS : j < S.length := by
    obtain ⟨r, i, h, _⟩ := hj
    exact (List.getElem?_eq_some_iff.mp h).1
  have hcl3 : ∀ z ∈ L3, D.closed ((S ++ W).length + 1) z = true := fun z hz => by
    rcases hL3m z hz with g | g
    · exact g.1 _
    · rw [g]
      show decide (S.length < (S ++ W).length + 1) = true
      exact decide_eq_true (Nat.lt_succ_of_lt hlt)
  have hS3 : Sane (S ++ W ++ [.lst L3]) := sane_app hS2 (show D.closed ((S ++ W).length + 1) (.lst L3) = true from closedL_all hcl3)
  have hj3 : Dr (S ++ W ++ [.lst L3]) j := by
    obtain ⟨r, i, h, h0⟩ := hj
    exact ⟨r, i, by rw [List.getElem?_append_left (by omega), List.getElem?_append_left hjS]; exact h, h0⟩
  have hq := lnext_spec (b := 18) (by decide) (by decide) _ hS3 hj3
  refine s_ret ?_
  refine p_bin ?_
  refine p_var rfl ?_
  refine p_call ?_
  refine p_cons ?_
  refine p_var rfl ?_
  refine p_cons ?_
  refine p_as ?_
  refine p_cons ?_
  refine p_var rfl ?_
  refine p_nil ?_
  refine p_lift (show gLen _ [.ptr (S ++ W).length] = some (.int 18) by
    unfold gLen
    dsimp only
    rw [deref_lst (show (S ++ W ++ [D.lst L3])[(S ++ W).length]? = some (.lst L3) from get_app)]
    dsimp only
    rw [hL3l]
    rfl) ?_
  refine p_nil ?_
  refine hq.mono ?_
  rintro z T ⟨⟨i, rfl, i0, i1⟩, r, m, hr0', rfl⟩
  have hset : (S ++ W ++ [D.lst L3]).set j (drw r m) = S.set j (drw r m) ++ (W ++ [.lst L3]) := by
    rw [List.append_assoc, List.set_append_left _ _ hjS]
  have hil : i.toNat < L3.length := by omega
  have hcell : ((S ++ W ++ [D.lst L3]).set j (drw r m))[(S ++ W).length]? = some (.lst L3) := by
    rw [List.getElem?_set_ne (by omega)]
    exact get_app
  refine p_lift (a := L3[i.toNat]) (by
    unfold gIx
    rw [deref_lst hcell]
    have := atI_nat (xs := L3) (k := i.toNat) (d := L3[i.toNat]) (List.getElem?_eq_getElem hil)
    rw [show ((i.toNat : Nat) : Int) = i by omega] at this
    exact this) ?_
  refine ⟨⟨S.set j (drw r m), W ++ [.lst L3], ⟨r, m, hr0', rfl⟩, hset⟩, ?_⟩
  rcases hL3m _ (List.getElem_mem hil) with g | g
  · exact .inl g
  · refine .inr ⟨S.length, g, Nat.le_refl _, ?_⟩
    rw [List.getElem?_set_ne (by omega), List.getElem?_append_left hlt]
    exact hd
end
end DL
set_option Elab.async false
set_option linter.all false
set_option maxRecDepth 100000
set_option maxHeartbeats 1000000
set_option autoImplicit false
namespace DL
open PySem L2
open Emb
local macro_rules | `(tactic| walk_at "1") => `(tactic| with_reducible first
  | refine s_seq ?_ | refine s_asg ?_ | refine s_ret ?_ | refine s_if ?_ | refine s_expr ?_ | refine s_next ?_ | refine s_brk ?_ | refine s_cont ?_ | refine s_for ?_ | refine s_while ?_
  | refine p_c ?_ | refine p_bin ?_ | refine p_as ?_ | refine p_cons ?_ | refine p_nil ?_ | refine p_un ?_ | refine p_call ?_ | refine p_if ?_ | refine p_own ?_
  | refine p_keep ?_ | refine p_tru ?_ | refine p_and ?_ | refine p_or ?_ | refine p_not ?_ | refine p_val ?_ | refine p_rand ?_ | refine p_ror ?_ | refine p_rnot ?_ | refine p_chain ?_ | refine p_bif ?_
  | refine o_add ?_ | refine o_sub ?_ | refine o_ltU ?_ | refine o_leU ?_ | refine o_gtU ?_ | refine o_geU ?_ | refine o_neg ?_ | refine o_eqI ?_ | refine o_neI ?_ | refine o_abs ?_ | refine o_tru ?_ | refine p_true ?_ | refine p_false ?_
  | refine o_lenT ?_ | refine o_lenL ?_ | refine o_ix0 ?_ | refine o_ix1 ?_ | refine o_ix2 ?_ | refine o_ix0L ?_ | refine o_ix1L ?_ | refine o_ix2L ?_
  | refine s_par ?_ | refine p_yes ?_ | refine p_seq ?_ | refine s_gnil ?_ | refine s_gcons ?_ | refine s_gtux ?_ | refine s_gtupl ?_ | refine p_onone ?_ | refine p_osome ?_ | refine p_get2 ?_ | refine s_putU ?_ | refine p_sortIt ?_)
local macro_rules | `(tactic| walk_at "2") => `(tactic| first
  | walk_at "1"
  | (with_reducible refine p_var2 ?_)
  | ((with_reducible refine s_name ?_ ?_); (· exact Nat.le_of_ble_eq_true rfl); dsimp only [List.set_cons_zero, List.set_cons_succ])
  | (with_reducible refine p_tup ?_) | (with_reducible refine p_lst ?_) | ((with_reducible refine ⟨?_, ?_⟩); (· exact Nat.le_of_ble_eq_true rfl))
  | ((with_reducible refine p_ex2 (x := ?_) (y := ?_) ?_ ?_); rotate_left; rotate_left; (· rfl); refine ⟨?_, ?_, ?_⟩; (· exact Nat.le_of_ble_eq_true rfl); (· exact Nat.le_of_ble_eq_true rfl); dsimp only [List.set_cons_zero, List.set_cons_succ])
  | ((with_reducible refine p_isT ?_ ?_); (· rfl)) | ((with_reducible refine p_isF ?_ ?_); (· rfl))
  | ((with_reducible refine p_ex (x := ?_) ?_ ?_); rotate_left; (· rfl)))
local macro_rules | `(tactic| walk_at "3") => `(tactic| repeat walk_at "2")
open PR
section
variable {j n k3 : Nat} {S S2 : Sto} {ds L : List D} {r0 : List Int}
theorem nsTail_spec (hn : n ≤ 6) (h1 : 1 ≤ n) (hS : Sane S) (hj : Dr S j) (hdl : ds.length = n) (hgr : ∀ d ∈ ds, GR n d) (hr0l : r0.length = n) (hS2 : Sane S2) (hW : ∃ W, S2 = S ++ W) (hd : S2[S.length]? = some (.dct [])) (hk : S2[k3]? = some (.lst L)) (hLl : L.length = 9) (hLm : ∀ z ∈ L, NB z ∨ z = .ptr S.length) {o4 o5 : Option D} :
    (nsTail [some (.ptr j), some (.tup ds), some (.tup (r0.map .int)), some (.ptr k3), o4, o5] S2).post NoS (QN j S) NoS NoS := by
  have sl : 16000000 ≤ sizeLine := by decide
  obtain ⟨hc1, hc2⟩ := cut_last ds
  obtain ⟨hc3, hc4⟩ := cut_last (r0.map D.int)
  have hlr : (r0.map D.int).length = n := by rw [List.length_map]; exact hr0l
  obtain ⟨d0, hd0⟩ : ∃ d, d ∈ ds := by
    cases ds with
    | nil => exact absurd hdl (by simp; omega)
    | cons a r => exact ⟨a, List.mem_cons_self⟩
  obtain ⟨a0, ha0⟩ : ∃ a, a ∈ r0 := by
    cases r0 with
    | nil => exact absurd hr0l (by simp; omega)
    | cons a r => exact ⟨a, List.mem_cons_self⟩
  have hsim : ∀ x ∈ cutD (r0.map D.int) none (some (-1)), Sim0 x := fun x hx => by
    obtain ⟨i, _, rfl⟩ := List.mem_map.mp (hc3 x hx)
    exact .inl ⟨i, rfl⟩
  have hcl0 : ∀ m, ∀ x ∈ cutD (r0.map D.int) none (some (-1)), D.closed m x = true := fun m x hx => by
    obtain ⟨i, _, rfl⟩ := List.mem_map.mp (hc3 x hx)
    rfl
  have n10 : NB (.tup (cutD ds none (some (-1)) ++ [.tup (cutD (r0.map D.int) none (some (-1)) ++ [.bl true])])) := nb_tup (fun d hd => by
      rcases List.mem_append.mp hd with g | g
      · exact gr_row hn (hgr d (hc1 d g))
      · rw [List.mem_singleton.mp g]
        exact .tup _ (by rw [List.length_append]; show _ + 1 ≤ 1000; omega) fun x hx => by
          rcases List.mem_append.mp hx with h | h
          · exact hsim x h
          · rw [List.mem_singleton.mp h]; exact .inr (.inl rfl)) (by rw [List.length_append]; show _ + 1 ≤ 1000; omega) (fun m d hd => by
      rcases List.mem_append.mp hd with g | g
      · exact gr_closed (hgr d (hc1 d g)) m
      · rw [List.mem_singleton.mp g]
        exact closedL_all fun x hx => by
          rcases List.mem_append.mp hx with h | h
          · exact hcl0 m x h
          · rw [List.mem_singleton.mp h]; rfl) (sqB_bad (d := .tup (cutD (r0.map D.int) none (some (-1)) ++ [.bl true])) (List.mem_append_right _ List.mem_cons_self) (by
      show (decide _ && (cutD (r0.map D.int) none (some (-1)) ++ [D.bl true]).all isW) = false
      rw [List.all_append, List.all_cons, show isW (.bl true) = false from rfl, Bool.false_and, Bool.and_false, Bool.and_false]))
  have n9 : NB (.tup (ds.map fun d : D => match d with | .tup ys => D.tup (ys ++ [D.int 0]) | d => d)) := nb_tup (fun d hd => by
      obtain ⟨e, he, rfl⟩ := List.mem_map.mp hd
      obtain ⟨row, hl, rfl⟩ := hgr e he
      exact .tup _ (by rw [List.length_append, List.length_map]; show _ + 1 ≤ 1000; omega) fun x hx => by
        rcases List.mem_append.mp hx with h | h
        · obtain ⟨i, _, rfl⟩ := List.mem_map.mp h
          exact .inl ⟨i, rfl⟩
        · rw [List.mem_singleton.mp h]; exact .inl ⟨0, rfl⟩) (by rw [List.length_map]; omega) (fun m d hd => by
      obtain ⟨e, he, rfl⟩ := List.mem_map.mp hd
      obtain ⟨row, hl, rfl⟩ := hgr e he
      exact closedL_all fun x hx => by
        rcases List.mem_append.mp hx with h | h
        · obtain ⟨i, _, rfl⟩ := List.mem_map.mp h
          rfl
        · rw [List.mem_singleton.mp h]; rfl) (sqB_bad (List.mem_map_of_mem hd0) (by
      obtain ⟨row, hl, rfl⟩ := hgr d0 hd0
      show (decide ((row.map D.int ++ [D.int 0]).length = _) && _) = false
      rw [decide_eq_false (by rw [List.length_map, List.length_append, List.length_map]; show ¬ row.length + 1 = ds.length; omega)]
      rfl))
  have n11 : NB (.tup (r0.map D.int)) := nb_tup (fun d hd => by
      obtain ⟨i, _, rfl⟩ := List.mem_map.mp hd
      exact .int i) (by omega) (fun m d hd => by
      obtain ⟨i, _, rfl⟩ := List.mem_map.mp hd
      rfl) (sqB_bad (List.mem_map_of_mem ha0) rfl)
  have n12 : NB (.tup [.tup [.int 1, .int 0]]) := nb_tup (fun d hd => by
      rw [List.mem_singleton.mp hd]
      exact .tup _ (by decide) fun x hx => by
        simp only [List.mem_cons, List.not_mem_nil, or_false] at hx
        rcases hx with rfl | rfl
        · exact .inl ⟨1, rfl⟩
        · exact .inl ⟨0, rfl⟩) (by decide) (fun m d hd => by rw [List.mem_singleton.mp hd]; rfl) rfl
  have n13 : NB (.bl true) := nb_odd (fun _ => rfl) fun S => rfl
  unfold nsTail
  refine s_seq ?_
  refine s_asg ?_
  refine p_own ?_
  refine p_bin ?_
  refine p_var rfl ?_
  refine p_keep ?_
  refine p_lst ?_
  refine p_cons ?_
  refine p_as ?_
  refine p_cons ?_
  refine p_keep ?_
  refine lc_map (xs := ds) (ti := id) (f := fun d : D => match d with | .tup ys => D.tup (ys ++ [D.int 0]) | d => d) (Nat.lt_of_succ_le (Nat.le_of_ble_eq_true rfl)) (exact_of (p_seq (p_var rfl (.inr (.inl ⟨_, rfl, by rw [List.map_id]; exact ⟨rfl, rfl⟩⟩))))) (by omega) (fun d hd => exact_of ?_) ?_
  · obtain ⟨row, hl, rfl⟩ := hgr d hd
    dsimp only [wipeD, List.set_cons_zero, List.set_cons_succ, id]
    refine p_bin ?_
    refine p_var rfl ?_
    refine p_tup ?_
    refine p_cons ?_
    refine p_c ?_
    refine p_nil ?_
    refine ⟨Nat.le_of_ble_eq_true rfl, ?_⟩
    exact p_addT (by rw [List.length_map]; show _ + 1 ≤ 1000; omega) ⟨rfl, rfl⟩
  refine ⟨_, rfl, ?_⟩
  generalize (ds.map fun d : D => match d with | .tup ys => D.tup (ys ++ [D.int 0]) | d => d) = x9 at *
  refine p_nil ?_
  refine p_lift (show gTuple _ [.lst x9] = some (.tup x9) from rfl) ?_
  refine p_cons ?_
  refine p_bin ?_
  refine p_cutT ?_
  refine p_var rfl ?_
  refine p_onone ?_
  refine p_osome ?_
  refine p_un ?_
  refine p_c ?_
  refine p_lift (show gNeg S2 (.int 1) = some (.int (-1)) from rfl) ?_
  refine ⟨_, rfl, ?_⟩
  refine ⟨_, rfl, ?_⟩
  refine p_tup ?_
  refine p_cons ?_
  refine p_bin ?_
  refine p_cutT ?_
  refine p_var rfl ?_
  refine p_onone ?_
  refine p_osome ?_
  refine p_un ?_
  refine p_c ?_
  refine p_lift (show gNeg S2 (.int 1) = some (.int (-1)) from rfl) ?_
  refine ⟨_, rfl, ?_⟩
  refine ⟨_, rfl, ?_⟩
  refine p_tup ?_
  refine p_cons ?_
  refine p_c ?_
  refine p_nil ?_
  refine ⟨Nat.le_of_ble_eq_true rfl, ?_⟩
  refine p_addT (by show (cutD (r0.map D.int) none (some (-1))).length + 1 ≤ 1000; omega) ?_
  refine p_nil ?_
  refine ⟨Nat.le_of_ble_eq_true rfl, ?_⟩
  refine p_addT (by show (cutD ds none (some (-1))).length + 1 ≤ 1000; omega) ?_
  generalize cutD ds none (some (-1)) ++ [D.tup (cutD (r0.map D.int) none (some (-1)) ++ [.bl true])] = x10 at *
  refine p_cons ?_
  refine p_var rfl ?_
  refine p_cons ?_
  refine p_tup ?_
  refine p_cons ?_
  refine p_tup ?_
  refine p_cons ?_
  refine p_c ?_
  refine p_cons ?_
  refine p_c ?_
  refine p_nil ?_
  refine ⟨Nat.le_of_ble_eq_true rfl, ?_⟩
  refine p_nil ?_
  refine ⟨Nat.le_of_ble_eq_true rfl, ?_⟩
  refine p_cons ?_
  refine p_c ?_
  refine p_nil ?_
  refine ⟨Nat.le_of_ble_eq_true rfl, ?_⟩
  refine ⟨_, rfl, ?_⟩
  refine p_catP hk (by show L.length + 5 ≤ 1000; omega) ?_
  obtain ⟨L2, hL2⟩ : ∃ L2, L2 = L ++ [.tup x9, .tup x10, .tup (r0.map D.int), .tup [.tup [.int 1, .int 0]], .bl true] := ⟨_, rfl⟩
  have hL2l : L2.length = 14 := by rw [hL2, List.length_append, hLl]; rfl
  have hL2m : ∀ z ∈ L2, NB z ∨ z = .ptr S.length := fun z hz => by
    rw [hL2] at hz
    rcases List.mem_append.mp hz with g | g
    · exact hLm z g
    · simp only [List.mem_cons, List.not_mem_nil, or_false] at g
      rcases g with rfl | rfl | rfl | rfl | rfl
      · exact .inl n9
      · exact .inl n10
      · exact .inl n11
      · exact .inl n12
      · exact .inl n13
  rw [← hL2]
  refine s_name (Nat.le_of_ble_eq_true rfl) ?_
  dsimp only [List.set_cons_zero, List.set_cons_succ]
  have hlt : S.length < S2.length := (List.getElem?_eq_some_iff.mp hd).1
  have hS3 : Sane (S2 ++ [.lst L2]) := sane_app hS2 (closedL_all fun z hz => by
    rcases hL2m z hz with g | g
    · exact g.1 _
    · rw [g]
      show decide (S.length < S2.length + 1) = true
      exact decide_eq_true (by omega))
  obtain ⟨W, hWe⟩ := hW
  exact nsTail2_spec hn h1 hS hj hdl hgr hr0l hS3 ⟨W ++ [.lst L2], by rw [hWe, List.append_assoc]⟩ (by rw [List.getElem?_append_left hlt]; exact hd) get_app hL2l hL2m
end
theorem no_square_spec {j n : Nat} (hn : n ≤ 6) (h1 : 1 ≤ n) {A : Mt} (S : Sto) (hS : Sane S) (hj : Dr S j) : (m__law_no_square [.ptr j, sqD n A] S).post fun z S' => (∃ T W, Mv j S T ∧ S' = T ++ W) ∧ Sane S' ∧ m_is_square [z] S' = .ok (.bl false) S' := by
  have sl : 16000000 ≤ sizeLine := by decide
  refine m_defN (j := j) hS ?_
  show (b__law_no_square [some (.ptr j), some (sqD n A), none, none, none, none] S).post _ _ _ _
  have hjl : j < S.length := by
    obtain ⟨r, i, h, _⟩ := hj
    exact (List.getElem?_eq_some_iff.mp h).1
  have hsq : sqD n A = .tup ((List.range n).map (rowD' n A)) := rfl
  have hdl : ((List.range n).map (rowD' n A)).length = n := by rw [List.length_map, List.length_range]
  have hgr : ∀ d ∈ (List.range n).map (rowD' n A), GR n d := fun d hd => by
    obtain ⟨i, _, rfl⟩ := List.mem_map.mp hd
    exact ⟨(List.range n).map (A i), by rw [List.length_map, List.length_range], by unfold rowD'; rw [rowN_int]⟩
  obtain ⟨r0, hr0l, hr0⟩ : ∃ r0 : List Int, r0.length = n ∧ ∀ S, gIx S (.tup ((List.range n).map (rowD' n A))) (.int 0) = some (.tup (r0.map .int)) := ⟨(List.range n).map (A 0), by rw [List.length_map, List.length_range], fun S => by
    have this : D.tup (((List.range n).map (A 0)).map D.int) = rowD' n A 0 := by unfold rowD'; rw [rowN_int]
    rw [this]
    exact atI_nat (k := 0) (by rw [List.getElem?_map, List.getElem?_range (by omega)]; rfl)⟩
  rw [hsq]
  generalize (List.range n).map (rowD' n A) = ds at *
  have hg0 : GR n (.tup (r0.map .int)) := ⟨r0, hr0l, rfl⟩
  obtain ⟨d0, hd0⟩ : ∃ d, d ∈ ds := by
    cases ds with
    | nil => exact absurd hdl (by simp; omega)
    | cons a r => exact ⟨a, List.mem_cons_self⟩
  obtain ⟨hc1, hc2⟩ := cut_last ds
  obtain ⟨hc3, hc4⟩ := cut_last (r0.map D.int)
  have hlr : (r0.map D.int).length = n := by rw [List.length_map]; exact hr0l
  rw [b_ns_eq]
  refine s_seq ?_
  refine s_asg ?_
  refine p_bin ?_
  refine p_var rfl ?_
  refine p_c ?_
  refine p_lift (hr0 S) ?_
  refine s_name (Nat.le_of_ble_eq_true rfl) ?_
  dsimp only [List.set_cons_zero, List.set_cons_succ]
  -- the first nine
  refine s_seq ?_
  refine s_asg ?_
  refine p_own ?_
  refine p_lst ?_
  refine p_cons ?_
  refine p_c ?_
  refine p_cons ?_
  refine p_c ?_
  refine p_cons ?_
  refine p_tup ?_
  refine p_nil ?_
  refine ⟨Nat.le_of_ble_eq_true rfl, ?_⟩
  refine p_cons ?_
  refine p_c ?_
  refine p_cons ?_
  refine p_keep ?_
  refine lc_map (xs := ds) (ti := id) (f := fun d => match d with | .tup ys => D.lst ys | d => d) (Nat.lt_of_succ_le (Nat.le_of_ble_eq_true rfl)) (exact_of (p_seq (p_var rfl (.inr (.inl ⟨_, rfl, by rw [List.map_id]; exact ⟨rfl, rfl⟩⟩))))) (by omega) (fun d hd => exact_of ?_) ?_
  · obtain ⟨row, _, rfl⟩ := hgr d hd
    dsimp only [wipeD, List.set_cons_zero, List.set_cons_succ, id]
    refine p_keep ?_
    refine p_as ?_
    refine p_cons ?_
    refine p_var rfl ?_
    refine p_nil ?_
    refine p_lift (show gList _ [.tup (row.map D.int)] = some (.lst (row.map D.int)) from rfl) ?_
    exact ⟨_, rfl, rfl, rfl⟩
  refine ⟨_, rfl, ?_⟩
  generalize hx4 : ds.map (fun d => match d with | .tup ys => D.lst ys | d => d) = x4
  have hx4c : ∀ m, D.closed m (.lst x4) = true := fun m => closedL_all fun d hd => by
    rw [← hx4] at hd
    obtain ⟨e, he, rfl⟩ := List.mem_map.mp hd
    obtain ⟨row, _, rfl⟩ := hgr e he
    exact closed_ints' _
  refine p_cons ?_
  refine p_keep ?_
  refine p_as ?_
  refine p_cons ?_
  refine p_var rfl ?_
  refine p_nil ?_
  refine p_lift (show gList _ [.tup ds] = some (.lst ds) from rfl) ?_
  refine ⟨_, rfl, ?_⟩
  refine p_cons ?_
  refine p_own ?_
  refine p_c ?_
  refine p_cons ?_
  refine p_bin ?_
  refine p_var rfl ?_
  refine p_tup ?_
  refine p_cons ?_
  refine p_var rfl ?_
  refine p_nil ?_
  refine ⟨Nat.le_of_ble_eq_true rfl, ?_⟩
  refine p_addT (by show ds.length + 1 ≤ 1000; omega) ?_
  refine p_cons ?_
  refine p_bin ?_
  refine p_cutT ?_
  refine p_var rfl ?_
  refine p_osome ?_
  refine p_c ?_
  refine ⟨_, rfl, ?_⟩
  refine p_onone ?_
  refine ⟨_, rfl, ?_⟩
  refine p_tup ?_
  refine p_cons ?_
  refine p_tup ?_
  refine p_nil ?_
  refine ⟨Nat.le_of_ble_eq_true rfl, ?_⟩
  refine p_nil ?_
  refine ⟨Nat.le_of_ble_eq_true rfl, ?_⟩
  obtain ⟨c1, hc1e, hc1m, hc1l⟩ : ∃ c, c = cutD ds (some 1) none ∧ (∀ x ∈ c, x ∈ ds) ∧ c.length = n - 1 := ⟨_, rfl, fun x hx => List.mem_of_mem_drop (List.mem_of_mem_take hx), by
    unfold cutD HT.sIx
    dsimp only
    rw [if_neg (by omega), List.length_take, List.length_drop]
    omega⟩
  rw [← hc1e]
  refine p_addT (by show c1.length + 1 ≤ 1000; omega) ?_
  refine p_nil ?_
  refine ⟨Nat.le_of_ble_eq_true rfl, ?_⟩
  have n7 : NB (.tup (ds ++ [.tup (r0.map D.int)])) := nb_tup (fun d hd => by
      rcases List.mem_append.mp hd with g | g
      · exact gr_row hn (hgr d g)
      · rw [List.mem_singleton.mp g]; exact gr_row hn hg0) (by rw [List.length_append]; show ds.length + 1 ≤ 1000; omega) (fun m d hd => by
      rcases List.mem_append.mp hd with g | g
      · exact gr_closed (hgr d g) m
      · rw [List.mem_singleton.mp g]; exact gr_closed hg0 m) (sqB_bad (d := d0) (List.mem_append_left _ hd0) (by
      obtain ⟨row, hl, rfl⟩ := hgr d0 hd0
      show (decide ((row.map D.int).length = _) && _) = false
      rw [decide_eq_false (by rw [List.length_map, List.length_append]; show ¬ row.length = ds.length + 1; omega)]
      rfl))
  have n8 : NB (.tup (c1 ++ [.tup []])) := nb_tup (fun d hd => by
      rcases List.mem_append.mp hd with g | g
      · exact gr_row hn (hgr d (hc1m d g))
      · rw [List.mem_singleton.mp g]; exact .tup [] (Nat.zero_le _) fun _ h => by cases h) (by rw [List.length_append]; show c1.length + 1 ≤ 1000; omega) (fun m d hd => by
      rcases List.mem_append.mp hd with g | g
      · exact gr_closed (hgr d (hc1m d g)) m
      · rw [List.mem_singleton.mp g]; rfl) (sqB_bad (d := .tup []) (List.mem_append_right _ List.mem_cons_self) (by
      show (decide (([] : List D).length = _) && _) = false
      rw [decide_eq_false (by rw [List.length_append]; show ¬ 0 = c1.length + 1; omega)]
      rfl))
  have n4 : NB (.lst x4) := nb_odd hx4c fun S => rfl
  have n5 : NB (.lst ds) := nb_odd (fun m => closedL_all fun d hd => gr_closed (hgr d hd) m) fun S => rfl
  have n2 : NB (.tup []) := nb_tup (fun _ h => by cases h) (Nat.zero_le _) (fun _ _ h => by cases h) rfl
  have n0 : NB .non := nb_odd (fun _ => rfl) fun S => rfl
  have n1 : NB (.int 5) := nb_odd (fun _ => rfl) fun S => rfl
  have n3 : NB (.str "square") := nb_odd (fun _ => rfl) fun S => rfl
  generalize ds ++ [D.tup (r0.map D.int)] = x7 at *
  generalize c1 ++ [D.tup []] = x8 at *
  refine s_name (Nat.le_of_ble_eq_true rfl) ?_
  dsimp only [List.set_cons_zero, List.set_cons_succ]
  have hset : ∃ L : List D, L = [.non, .int 5, .tup [], .str "square", .lst x4, .lst ds, .ptr S.length, .tup x7, .tup x8] ∧ L.length = 9 ∧ ∀ z ∈ L, NB z ∨ z = .ptr S.length := ⟨_, rfl, rfl, fun z hz => by
    simp only [List.mem_cons, List.not_mem_nil, or_false] at hz
    rcases hz with rfl | rfl | rfl | rfl | rfl | rfl | rfl | rfl | rfl
    · exact .inl n0
    · exact .inl n1
    · exact .inl n2
    · exact .inl n3
    · exact .inl n4
    · exact .inl n5
    · exact .inr rfl
    · exact .inl n7
    · exact .inl n8⟩
  obtain ⟨L, hL, hLl, hLm⟩ := hset
  rw [← hL]
  have hl1 : (S ++ [D.dct []]).length = S.length + 1 := by rw [List.length_append]; rfl
  have hS2 : Sane (S ++ [.dct []] ++ [.lst L]) := sane_app (sane_app hS rfl) (closedL_all fun z hz => by
    rcases hLm z hz with g | g
    · exact g.1 _
    · rw [g]
      show decide (S.length < (S ++ [D.dct []]).length + 1) = true
      exact decide_eq_true (by omega))
  refine nsTail_spec hn h1 hS hj hdl hgr hr0l hS2 ⟨[.dct [], .lst L], by rw [List.append_assoc]; rfl⟩ ?_ get_app hLl hLm
  rw [List.getElem?_append_left (by omega)]
  exact get_app
end DL
set_option Elab.async false
set_option linter.all false
set_option maxRecDepth 100000
set_option maxHeartbeats 1000000
set_option autoImplicit false
namespace DL
open PySem L2
open Emb
local macro_rules | `(tactic| walk_at "1") => `(tactic| with_reducible first
  | refine s_seq ?_ | refine s_asg ?_ | refine s_ret ?_ | refine s_if ?_ | refine s_expr ?_ | refine s_next ?_ | refine s_brk ?_ | refine s_cont ?_ | refine s_for ?_ | refine s_while ?_
  | refine p_c ?_ | refine p_bin ?_ | refine p_as ?_ | refine p_cons ?_ | refine p_nil ?_ | refine p_un ?_ | refine p_call ?_ | refine p_if ?_ | refine p_own ?_
  | refine p_keep ?_ | refine p_tru ?_ | refine p_and ?_ | refine p_or ?_ | refine p_not ?_ | refine p_val ?_ | refine p_rand ?_ | refine p_ror ?_ | refine p_rnot ?_ | refine p_chain ?_ | refine p_bif ?_
  | refine o_add ?_ | refine o_sub ?_ | refine o_ltU ?_ | refine o_leU ?_ | refine o_gtU ?_ | refine o_geU ?_ | refine o_neg ?_ | refine o_eqI ?_ | refine o_neI ?_ | refine o_abs ?_ | refine o_tru ?_ | refine p_true ?_ | refine p_false ?_
  | refine o_lenT ?_ | refine o_lenL ?_ | refine o_ix0 ?_ | refine o_ix1 ?_ | refine o_ix2 ?_ | refine o_ix0L ?_ | refine o_ix1L ?_ | refine o_ix2L ?_
  | refine s_par ?_ | refine p_yes ?_ | refine p_seq ?_ | refine s_gnil ?_ | refine s_gcons ?_ | refine s_gtux ?_ | refine s_gtupl ?_ | refine p_onone ?_ | refine p_osome ?_ | refine p_get2 ?_ | refine s_putU ?_ | refine p_sortIt ?_)
local macro_rules | `(tactic| walk_at "2") => `(tactic| first
  | walk_at "1"
  | (with_reducible refine p_var2 ?_)
  | ((with_reducible refine s_name ?_ ?_); (· exact Nat.le_of_ble_eq_true rfl); dsimp only [List.set_cons_zero, List.set_cons_succ])
  | (with_reducible refine p_tup ?_) | (with_reducible refine p_lst ?_) | ((with_reducible refine ⟨?_, ?_⟩); (· exact Nat.le_of_ble_eq_true rfl))
  | ((with_reducible refine p_ex2 (x := ?_) (y := ?_) ?_ ?_); rotate_left; rotate_left; (· rfl); refine ⟨?_, ?_, ?_⟩; (· exact Nat.le_of_ble_eq_true rfl); (· exact Nat.le_of_ble_eq_true rfl); dsimp only [List.set_cons_zero, List.set_cons_succ])
  | ((with_reducible refine p_isT ?_ ?_); (· rfl)) | ((with_reducible refine p_isF ?_ ?_); (· rfl))
  | ((with_reducible refine p_ex (x := ?_) ?_ ?_); rotate_left; (· rfl)))
local macro_rules | `(tactic| walk_at "3") => `(tactic| repeat walk_at "2")
open PR
/-! ### squares held against one another, powers, bounds -/
theorem sqD_emb (n : Nat) (A : Mt) : sqD n A = toD ((List.range n).map fun i => (List.range n).map (A i)) := by
  show D.tup _ = D.tup (List.map toD _)
  rw [List.map_map]
  congr 1
  refine List.map_congr_left fun i _ => ?_
  show D.tup (rowN n (A i)) = D.tup (List.map toD _)
  rw [rowN_int]
  rfl
theorem sqD_congr {n : Nat} {A B : Mt} (h : ∀ i j, i < n → j < n → A i j = B i j) : sqD n A = sqD n B := by
  unfold sqD
  congr 1
  refine List.map_congr_left fun i hi => ?_
  unfold rowD' rowN
  congr 1
  exact List.map_congr_left fun j hj => congrArg D.int (h i j (List.mem_range.mp hi) (List.mem_range.mp hj))
def BM (b : Nat) (A : Mt) : Prop := ∀ i j, (A i j).natAbs ≤ b
theorem sm_abs {n M : Nat} {f : Nat → Int} (h : ∀ k, k < n → (f k).natAbs ≤ M) : (Sm n f).natAbs ≤ n * M := by
  induction n with
  | zero => rw [sm_zero]; exact Nat.zero_le _
  | succ n ih =>
    rw [sm_succ]
    have h1 := ih fun k hk => h k (by omega)
    have h2 := h n (by omega)
    rw [Nat.add_mul, Nat.one_mul]
    omega
theorem bm_mul {n a b : Nat} {X A : Mt} (h : BM a X) (g : BM b A) : BM (n * (a * b)) (mul n X A) := fun i j => sm_abs fun k _ => by
  rw [Int.natAbs_mul]
  exact Nat.mul_le_mul (h i k) (g k j)
def powR (n : Nat) (A : Mt) : Nat → Mt
  | 0 => smu 1 (one n)
  | t + 1 => mul n (powR n A t) A
theorem bm_one (n : Nat) : BM 1 (smu 1 (one n)) := fun i j => by
  show (1 * (if i = j ∧ i < n then (1 : Int) else 0)).natAbs ≤ 1
  split <;> decide
theorem bm_pow {n : Nat} (hn : n ≤ 6) {A : Mt} (h : Bd40 A) : ∀ t, BM (2 ^ (140 * t)) (powR n A t)
  | 0 => bm_one n
  | t + 1 => fun i j => by
    have h1 := bm_mul (n := n) (bm_pow hn h t) h i j
    refine Nat.le_trans h1 ?_
    rw [show 140 * (t + 1) = 140 * t + 140 by omega, Nat.pow_add]
    have h2 : n * (2 ^ (140 * t) * 10 ^ 40) ≤ 6 * (2 ^ (140 * t) * 10 ^ 40) := Nat.mul_le_mul_right _ hn
    generalize (2 ^ (140 * t) : Nat) = w at *
    have h3 : (2 ^ 140 : Nat) = 1393796574908163946345982392040522594123776 := by decide
    have h4 : (10 ^ 40 : Nat) = 10000000000000000000000000000000000000000 := by decide
    rw [h3]
    rw [h4] at h2 ⊢
    omega
theorem bm_evM {n : Nat} (hn : n ≤ 6) {A : Mt} (h : Bd40 A) {B : Nat} : ∀ {p : List Int}, BdI B p → BM (B * 2 ^ (140 * p.length)) (evM n A p)
  | [], _ => fun i j => Nat.zero_le _
  | c :: p, hp => fun i j => by
    have h0 := hp c List.mem_cons_self
    have ih := bm_evM hn h (p := p) fun x hx => hp x (List.mem_cons_of_mem _ hx)
    have h1 := bm_mul (n := n) h ih i j
    have h2 : (c * one n i j).natAbs ≤ B := by
      rw [Int.natAbs_mul]
      have : (one n i j).natAbs ≤ 1 := by unfold one; split <;> decide
      exact Nat.le_trans (Nat.mul_le_mul h0 this) (Nat.le_of_eq (Nat.mul_one B))
    show (c * one n i j + mul n A (evM n A p) i j).natAbs ≤ _
    rw [List.length_cons, show 140 * (p.length + 1) = 140 * p.length + 140 by omega, Nat.pow_add, ← Nat.mul_assoc]
    have h3 : n * (10 ^ 40 * (B * 2 ^ (140 * p.length))) ≤ 6 * (10 ^ 40 * (B * 2 ^ (140 * p.length))) := Nat.mul_le_mul_right _ hn
    have h5 : B ≤ B * 2 ^ (140 * p.length) := Nat.le_mul_of_pos_right _ (Nat.pow_pos (by decide))
    generalize (B * 2 ^ (140 * p.length) : Nat) = w at *
    have e3 : (2 ^ 140 : Nat) = 1393796574908163946345982392040522594123776 := by decide
    have e4 : (10 ^ 40 : Nat) = 10000000000000000000000000000000000000000 := by decide
    rw [e3]
    rw [e4] at h1 h3
    omega
theorem fit_ints {xs : List Int} (h : BdI (2 ^ 2000) xs) : fitP (py xs) = true := by
  show fitP (.tuple (xs.map py)) = true
  unfold fitP
  refine fitPs_map fun c hc => ?_
  show fitP (.int c) = true
  unfold fitP
  exact decide_eq_true (Nat.lt_of_le_of_lt (h c hc) (by decide +kernel))
theorem fit_sq {n : Nat} {A : Mt} (h : BM (2 ^ 2000) A) : fitP (py ((List.range n).map fun i => (List.range n).map (A i))) = true := by
  show fitP (.tuple (List.map py _)) = true
  unfold fitP
  refine fitPs_map fun r hr => fit_ints fun c hc => ?_
  obtain ⟨i, _, rfl⟩ := List.mem_map.mp hr
  obtain ⟨j, _, rfl⟩ := List.mem_map.mp hc
  exact h i j
theorem o_neSq {S : Sto} {n : Nat} {A : Mt} {Q : D → Sto → Prop} (h : BM (2 ^ 2000) A) (q : Q (.bl false) S) : (Res.lift (gNe S (sqD n A) (sqD n A)) S).post Q := by
  rw [sqD_emb]
  refine o_neEmb (fit_sq h) (fit_sq h) (by decide) ?_
  rw [decide_eq_true rfl]
  exact q
theorem o_neInts {S : Sto} {xs : List Int} {Q : D → Sto → Prop} (h : BdI (2 ^ 2000) xs) (q : Q (.bl false) S) : (Res.lift (gNe S (.tup (xs.map .int)) (.tup (xs.map .int))) S).post Q := by
  refine o_neEmb (κ := List Int) (a := xs) (b := xs) (fit_ints h) (fit_ints h) (by decide) ?_
  rw [decide_eq_true rfl]
  exact q
/-! ### are whole -/
theorem are_whole_spec {ds : List D} (h : ∀ d ∈ ds, ∃ row : List Int, row.length ≤ 1000 ∧ d = .tup (row.map .int)) (S : Sto) (hS : Sane S) : m__law_are_whole [.tup ds] S = .ok (.bl true) S := by
  have sl : 16000000 ≤ sizeLine := by decide
  refine m_defS hS rfl ?_
  show (b__law_are_whole [some (.tup ds), none, none] S).post _ _ _ _
  unfold b__law_are_whole
  refine s_seq ?_
  refine s_for ?_
  refine p_seq ?_
  refine p_var rfl ?_
  refine .inr (.inl ⟨_, rfl, ?_⟩)
  refine s_forL (fun xs δ S2 => ∃ (o1 o2 : Option D), (∀ x ∈ xs, x ∈ ds) ∧ S2 = S ∧ δ = [some (.tup ds), o1, o2]) ?_ ?_ _ _ _ ⟨none, none, fun _ h => h, rfl, rfl⟩
  · rintro x xs δ S2 ⟨o1, o2, hm, rfl, rfl⟩
    obtain ⟨row, hl, rfl⟩ := h x (hm x List.mem_cons_self)
    refine Res.post.of_eq (show gName 1 (.tup (row.map D.int)) [some (.tup ds), o1, o2] S2 = .ok [some (.tup ds), some (.tup (row.map D.int)), o2] S2 from rfl) ?_
    refine s_if ?_
    refine p_or ?_
    refine p_not ?_
    refine p_tru ?_
    refine p_as ?_
    refine p_cons ?_
    refine p_var rfl ?_
    refine p_cons ?_
    refine p_c ?_
    refine p_nil ?_
    refine p_lift (a := .bl true) rfl ?_
    refine ⟨(fun q => by cases q), fun _ => ?_⟩
    refine p_not ?_
    refine p_tru ?_
    refine p_as ?_
    refine p_cons ?_
    refine p_keep ?_
    refine lc_map (xs := row) (ti := D.int) (f := fun _ => D.bl true) (Nat.lt_of_succ_le (Nat.le_of_ble_eq_true rfl)) (exact_of ?_) hl (fun y hy => exact_of ?_) ?_
    · refine p_seq ?_
      refine p_var rfl ?_
      exact .inr (.inl ⟨_, rfl, rfl, rfl⟩)
    · dsimp only [wipeD, List.set_cons_zero, List.set_cons_succ]
      refine p_rand ?_
      refine p_as ?_
      refine p_cons ?_
      refine p_var rfl ?_
      refine p_cons ?_
      refine p_c ?_
      refine p_nil ?_
      refine p_lift (a := .bl true) rfl ?_
      refine ⟨_, rfl, (fun _ => ?_), fun q => by cases q⟩
      refine p_rnot ?_
      refine p_as ?_
      refine p_cons ?_
      refine p_var rfl ?_
      refine p_cons ?_
      refine p_c ?_
      refine p_nil ?_
      refine p_lift (a := .bl false) rfl ?_
      exact ⟨_, rfl, rfl, rfl⟩
    refine ⟨_, rfl, ?_⟩
    refine p_nil ?_
    have e1 : D.lst (row.map fun _ => D.bl true) = .lst ((row.map fun _ => true).map .bl) := by rw [List.map_map]; rfl
    rw [e1]
    refine o_all ?_
    have e2 : (row.map fun _ => true).all id = true := List.all_eq_true.mpr fun b hb => by
      obtain ⟨_, _, rfl⟩ := List.mem_map.mp hb
      rfl
    rw [e2]
    refine ⟨(fun q => by cases q), fun _ => ?_⟩
    refine s_next ?_
    exact ⟨_, _, fun z hz => hm z (List.mem_cons_of_mem _ hz), rfl, rfl⟩
  · rintro δ S2 ⟨o1, o2, hm, rfl, rfl⟩
    refine s_ret ?_
    refine p_as ?_
    refine p_cons ?_
    refine p_var rfl ?_
    refine p_cons ?_
    refine p_c ?_
    refine p_nil ?_
    exact p_lift (show gIsi S2 [.tup ds, .ty "tuple"] = some (.bl true) from rfl) ⟨rfl, rfl⟩
theorem whole_sq {n : Nat} (hn : n ≤ 6) (A : Mt) (S : Sto) (hS : Sane S) : m__law_are_whole [sqD n A] S = .ok (.bl true) S := are_whole_spec (fun d hd => by
  obtain ⟨i, _, rfl⟩ := List.mem_map.mp hd
  exact ⟨(List.range n).map (A i), by rw [List.length_map, List.length_range]; omega, by unfold rowD'; rw [rowN_int]⟩) S hS
/-! ### powers -/
theorem power_core {d1 : D} {own : Nat → D} {t : Nat} (ht : t ≤ 100000) {tt nn : Int} (htt : tt = (t : Int)) (S : Sto) (hS : Sane S) (hlen : ∀ S, gLen S [d1] = some (.int nn)) (hone : m_square_one [.int nn, .int 1] S = .ok (own 0) S) (htm : ∀ k, k < t → m_square_times [own k, d1] S = .ok (own (k + 1)) S) (hcl : D.closed S.length (own t) = true) : m_square_power [d1, .int tt] S = .ok (own t) S := by
  have sl : 16000000 ≤ sizeLine := by decide
  have hrg : rangeD 0 tt = (List.range t).map fun i : Nat => D.int (i : Int) := by rw [htt]; exact rangeD_nat t
  refine m_defS hS hcl ?_
  show (b_square_power [some d1, some (.int tt), none, none] S).post _ _ _ _
  unfold b_square_power
  refine s_seq ?_
  refine s_asg ?_
  refine p_call ?_
  refine p_cons ?_
  refine p_as ?_
  refine p_cons ?_
  refine p_var rfl ?_
  refine p_nil ?_
  refine p_lift (hlen S) ?_
  refine p_cons ?_
  refine p_c ?_
  refine p_nil ?_
  refine Res.post.of_eq hone ?_
  refine s_name (Nat.le_of_ble_eq_true rfl) ?_
  dsimp only [List.set_cons_zero, List.set_cons_succ]
  refine s_seq ?_
  refine s_for ?_
  with_reducible refine p_range1 ?_
  refine p_cons ?_
  refine p_var rfl ?_
  refine p_nil ?_
  refine ⟨_, rfl, by omega, by omega, ?_⟩
  rw [hrg]
  with_reducible refine s_forT (fun i : Nat => D.int (i : Int)) (fun xs δ S2 => ∃ (k : Nat) (o3 : Option D), k + xs.length = t ∧ S2 = S ∧ δ = [some d1, some (.int tt), some (own k), o3]) ?_ ?_ _ _ _ ?_
  · rintro x xs δ S2 ⟨k, o3, hk, rfl, rfl⟩
    rw [List.length_cons] at hk
    generalize D.int (x : Int) = dx
    refine Res.post.of_eq (show gName 3 dx [some d1, some (.int tt), some (own k), o3] S2 = .ok [some d1, some (.int tt), some (own k), some dx] S2 from rfl) ?_
    refine s_asg ?_
    refine p_call ?_
    refine p_cons ?_
    refine p_var rfl ?_
    refine p_cons ?_
    refine p_var rfl ?_
    refine p_nil ?_
    refine Res.post.of_eq (htm k (by omega)) ?_
    refine s_name (Nat.le_of_ble_eq_true rfl) ?_
    dsimp only [List.set_cons_zero, List.set_cons_succ]
    exact ⟨k + 1, _, by omega, rfl, rfl⟩
  · rintro δ S2 ⟨k, o3, hk, rfl, rfl⟩
    have hk : k = t := by simpa using hk
    subst hk
    refine s_ret ?_
    refine p_var rfl ?_
    exact ⟨rfl, rfl⟩
  · exact ⟨0, none, by rw [List.length_range]; omega, rfl, rfl⟩
theorem square_power_spec {n : Nat} (hn : n ≤ 6) {A : Mt} {t : Nat} (ht : t ≤ 100000) {tt : Int} (htt : tt = (t : Int)) (hF : ∀ k, k < t → ∀ i m j, mulFits (powR n A k i m) (A m j) = true) (S : Sto) (hS : Sane S) : m_square_power [sqD n A, .int tt] S = .ok (sqD n (powR n A t)) S :=
  power_core (own := fun k => sqD n (powR n A k)) (nn := (n : Int)) ht htt S hS (fun _ => len_sq) (square_one_spec n hn 1 S hS) (fun k hk => square_times_spec n hn (powR n A k) A (fun i m j => hF k hk i m j) S hS) sqD_closed
end DL
set_option Elab.async false
set_option linter.all false
set_option maxRecDepth 100000
set_option maxHeartbeats 1000000
set_option autoImplicit false
namespace DL
open PySem L2
open Emb
local macro_rules | `(tactic| walk_at "1") => `(tactic| with_reducible first
  | refine s_seq ?_ | refine s_asg ?_ | refine s_ret ?_ | refine s_if ?_ | refine s_expr ?_ | refine s_next ?_ | refine s_brk ?_ | refine s_cont ?_ | refine s_for ?_ | refine s_while ?_
  | refine p_c ?_ | refine p_bin ?_ | refine p_as ?_ | refine p_cons ?_ | refine p_nil ?_ | refine p_un ?_ | refine p_call ?_ | refine p_if ?_ | refine p_own ?_
  | refine p_keep ?_ | refine p_tru ?_ | refine p_and ?_ | refine p_or ?_ | refine p_not ?_ | refine p_val ?_ | refine p_rand ?_ | refine p_ror ?_ | refine p_rnot ?_ | refine p_chain ?_ | refine p_bif ?_
  | refine o_add ?_ | refine o_sub ?_ | refine o_ltU ?_ | refine o_leU ?_ | refine o_gtU ?_ | refine o_geU ?_ | refine o_neg ?_ | refine o_eqI ?_ | refine o_neI ?_ | refine o_abs ?_ | refine o_tru ?_ | refine p_true ?_ | refine p_false ?_
  | refine o_lenT ?_ | refine o_lenL ?_ | refine o_ix0 ?_ | refine o_ix1 ?_ | refine o_ix2 ?_ | refine o_ix0L ?_ | refine o_ix1L ?_ | refine o_ix2L ?_
  | refine s_par ?_ | refine p_yes ?_ | refine p_seq ?_ | refine s_gnil ?_ | refine s_gcons ?_ | refine s_gtux ?_ | refine s_gtupl ?_ | refine p_onone ?_ | refine p_osome ?_ | refine p_get2 ?_ | refine s_putU ?_ | refine p_sortIt ?_)
local macro_rules | `(tactic| walk_at "2") => `(tactic| first
  | walk_at "1"
  | (with_reducible refine p_var2 ?_)
  | ((with_reducible refine s_name ?_ ?_); (· exact Nat.le_of_ble_eq_true rfl); dsimp only [List.set_cons_zero, List.set_cons_succ])
  | (with_reducible refine p_tup ?_) | (with_reducible refine p_lst ?_) | ((with_reducible refine ⟨?_, ?_⟩); (· exact Nat.le_of_ble_eq_true rfl))
  | ((with_reducible refine p_ex2 (x := ?_) (y := ?_) ?_ ?_); rotate_left; rotate_left; (· rfl); refine ⟨?_, ?_, ?_⟩; (· exact Nat.le_of_ble_eq_true rfl); (· exact Nat.le_of_ble_eq_true rfl); dsimp only [List.set_cons_zero, List.set_cons_succ])
  | ((with_reducible refine p_isT ?_ ?_); (· rfl)) | ((with_reducible refine p_isF ?_ ?_); (· rfl))
  | ((with_reducible refine p_ex (x := ?_) ?_ ?_); rotate_left; (· rfl)))
local macro_rules | `(tactic| walk_at "3") => `(tactic| repeat walk_at "2")
open PR
/-! ### the law -/
def lkIn : RS := (sSeq (sAsg (rCall m_square_power (rCons (rVar 5) (rCons (rVar 7) rNil))) (gName 11)) (sSeq (sIf (bOr (bNot (bTru (rCall m__law_are_whole (rCons (rVar 11) rNil)))) (bOr (bVal (rBin gNe (rVar 11) (rVar 8))) (bVal (rBin gNe (rCall m_square_times (rCons (rVar 5) (rCons (rVar 6) rNil))) (rCall m__law_product (rCons (rVar 5) (rCons (rVar 6) rNil))))))) (sRet (rC (.bl false))) sNext) (sSeq (sAsg (rCall m_square_poly (rCons (rVar 5) rNil)) (gName 12)) (sIf (bOr (bNot (bTru (rCall m__law_are_whole (rCons (rTup (rCons (rVar 12) rNil)) rNil)))) (bVal (rBin gNe (rVar 12) (rVar 10)))) (sRet (rC (.bl false))) sNext))))
def lkPoly : RS := (sSeq (sAsg (rCall m__law_poly (rCons (rVar 5) rNil)) (gName 10)) (sFor (rRange (rCons (rC (.int 2)) rNil)) (gName 9) lkIn))
def lkProd : RS := (sAsg (rCall m__law_product (rCons (rVar 8) (rCons (rVar 5) rNil))) (gName 8))
def lkDueE : RE := (rAs gTuple (rCons (rKeep (rLc (rRange (rCons (rVar 4) rNil)) (gName 14) [14] bYes (rAs gTuple (rCons (rKeep (rLc (rRange (rCons (rVar 4) rNil)) (gName 15) [15] bYes (rAs gInt (rCons (rBin gEq (rVar 14) (rVar 15)) rNil)))) rNil)))) rNil))
def lkDue : RS := (sSeq (sAsg lkDueE (gName 8)) (sSeq (sFor (rRange (rCons (rVar 7) rNil)) (gName 9) lkProd) lkPoly))
def lkMany : RS := (sSeq (sAsg (rCall m__law_next (rCons (rVar 3) (rCons (rC (.int 5)) rNil))) (gName 7)) lkDue)
def lkLook : RS := (sSeq (sIf (bOr (bVal (rBin gIsN (rCall m_is_square (rCons (rVar 5) rNil)) (rC (.bl true)))) (bVal (rBin gIsN (rCall m_is_square (rCons (rCall m__law_no_square (rCons (rVar 3) (rCons (rVar 5) rNil))) rNil)) (rC (.bl false))))) (sRet (rC (.bl false))) sNext) lkMany)
def lkTwo : RS := (sSeq (sPar 5 6 (rCons (rCall m__law_numbers (rCons (rVar 3) (rCons (rVar 4) rNil))) (rCons (rCall m__law_numbers (rCons (rVar 3) (rCons (rVar 4) rNil))) rNil))) lkLook)
def lkTurn : RS := (sSeq (sAsg (rCall m__law_begun (rCons (rKeep (rBin gCat (rKeep (rLst (rCons (rVar 2) rNil))) (rVar 0))) (rCons (rC (.int 0)) (rCons (rBin gAdd (rC (.int 2)) (rVar 1)) rNil)))) (gName 3)) (sSeq (sAsg (rBin gIx (rKeep (rLst (rCons (rC (.int 1)) (rCons (rC (.int 2)) (rCons (rC (.int 3)) (rCons (rC (.int 4)) (rCons (rC (.int 2)) (rCons (rC (.int 3)) (rCons (rC (.int 5)) (rCons (rC (.int 6)) rNil)))))))))) (rCall m__law_next (rCons (rVar 3) (rCons (rC (.int 8)) rNil)))) (gName 4)) lkTwo))
def lkFor : RS := (sFor (rEnum (rCons (rCut (rOr (rVar 0) (rKeep (rLst (rCons (rC (.int 4)) rNil)))) oNone (oSome (rC (.int 10)))) rNil)) (gTup (gCons (gName 1) (gCons (gName 2) gNil))) lkTurn)
def lkEnd : RS := (sSeq (sAsg (rBin gAdd (rC (.int 1001)) (rCall m__law_next (rCons (rVar 3) (rCons (rC (.int 300)) rNil)))) (gName 13)) (sSeq (sIf (bVal (rBin gNe (rCall m_square_power (rCons (rTup (rCons (rTup (rCons (rC (.int 0)) (rCons (rC (.int 1)) rNil))) (rCons (rTup (rCons (rC (.int 1)) (rCons (rC (.int 0)) rNil))) rNil))) (rCons (rVar 13) rNil))) (rBin gIx (rTup (rCons (rTup (rCons (rTup (rCons (rC (.int 1)) (rCons (rC (.int 0)) rNil))) (rCons (rTup (rCons (rC (.int 0)) (rCons (rC (.int 1)) rNil))) rNil))) (rCons (rTup (rCons (rTup (rCons (rC (.int 0)) (rCons (rC (.int 1)) rNil))) (rCons (rTup (rCons (rC (.int 1)) (rCons (rC (.int 0)) rNil))) rNil))) rNil))) (rBin gMod (rVar 13) (rC (.int 2)))))) (sRet (rC (.bl false))) sNext) (sRet (rBin gIs (rCall m_is_square (rCons (rAs gTuple (rCons (rKeep (rLc (rRange (rCons (rC (.int 6)) rNil)) (gName 1) [1] bYes (rAs gTuple (rCons (rKeep (rBin gRepF (rLst (rCons (rVar 1) rNil)) (rC (.int 6)))) rNil)))) rNil)) rNil)) (rC (.bl true))))))
theorem b_law_eq : b_law = sSeq lkFor lkEnd := rfl
theorem lkIn_spec {S : Sto} {d1 d2 pw m2 pp : D} {k : Int} (hp : m_square_power [d1, .int k] S = .ok pw S) (hw : m__law_are_whole [pw] S = .ok (.bl true) S) (hn1 : gNe S pw pw = some (.bl false))
    (ht : m_square_times [d1, d2] S = .ok m2 S) (hl : m__law_product [d1, d2] S = .ok m2 S) (hn2 : gNe S m2 m2 = some (.bl false)) (hq : m_square_poly [d1] S = .ok pp S) (hw2 : m__law_are_whole [.tup [pp]] S = .ok (.bl true) S) (hn3 : gNe S pp pp = some (.bl false))
    {o0 o1 o2 o3 o4 o9 o11 o12 o13 o14 o15 : Option D} {NN B C : Sl → Sto → Prop} {TT : D → Sto → Prop} (h : ∀ o11 o12, NN [o0, o1, o2, o3, o4, some d1, some d2, some (.int k), some pw, o9, some pp, o11, o12, o13, o14, o15] S) :
    (lkIn [o0, o1, o2, o3, o4, some d1, some d2, some (.int k), some pw, o9, some pp, o11, o12, o13, o14, o15] S).post NN TT B C := by
  unfold lkIn
  refine s_seq ?_
  refine s_asg ?_
  refine p_call ?_
  refine p_cons ?_
  refine p_var rfl ?_
  refine p_cons ?_
  refine p_var rfl ?_
  refine p_nil ?_
  refine Res.post.of_eq hp ?_
  refine s_name (Nat.le_of_ble_eq_true rfl) ?_
  dsimp only [List.set_cons_zero, List.set_cons_succ]
  refine s_seq ?_
  refine s_if ?_
  refine p_or ?_
  refine p_not ?_
  refine p_tru ?_
  refine p_call ?_
  refine p_cons ?_
  refine p_var rfl ?_
  refine p_nil ?_
  refine Res.post.of_eq hw ?_
  refine ⟨(fun q => by cases q), fun _ => ?_⟩
  refine p_or ?_
  refine p_val ?_
  refine p_bin ?_
  refine p_var rfl ?_
  refine p_var rfl ?_
  refine p_lift hn1 ?_
  refine ⟨_, rfl, (fun q => by cases q), fun _ => ?_⟩
  refine p_val ?_
  refine p_bin ?_
  refine p_call ?_
  refine p_cons ?_
  refine p_var rfl ?_
  refine p_cons ?_
  refine p_var rfl ?_
  refine p_nil ?_
  refine Res.post.of_eq ht ?_
  refine p_call ?_
  refine p_cons ?_
  refine p_var rfl ?_
  refine p_cons ?_
  refine p_var rfl ?_
  refine p_nil ?_
  refine Res.post.of_eq hl ?_
  refine p_lift hn2 ?_
  refine ⟨_, rfl, (fun q => by cases q), fun _ => ?_⟩
  refine s_next ?_
  refine s_seq ?_
  refine s_asg ?_
  refine p_call ?_
  refine p_cons ?_
  refine p_var rfl ?_
  refine p_nil ?_
  refine Res.post.of_eq hq ?_
  refine s_name (Nat.le_of_ble_eq_true rfl) ?_
  dsimp only [List.set_cons_zero, List.set_cons_succ]
  refine s_if ?_
  refine p_or ?_
  refine p_not ?_
  refine p_tru ?_
  refine p_call ?_
  refine p_cons ?_
  refine p_tup ?_
  refine p_cons ?_
  refine p_var rfl ?_
  refine p_nil ?_
  refine ⟨Nat.le_of_ble_eq_true rfl, ?_⟩
  refine p_nil ?_
  refine Res.post.of_eq hw2 ?_
  refine ⟨(fun q => by cases q), fun _ => ?_⟩
  refine p_val ?_
  refine p_bin ?_
  refine p_var rfl ?_
  refine p_var rfl ?_
  refine p_lift hn3 ?_
  refine ⟨_, rfl, (fun q => by cases q), fun _ => ?_⟩
  refine s_next ?_
  exact h _ _
theorem lkPoly_spec {S : Sto} {d1 d2 pw m2 pp : D} {k : Int} (hpo : m__law_poly [d1] S = .ok pp S) (hp : m_square_power [d1, .int k] S = .ok pw S) (hw : m__law_are_whole [pw] S = .ok (.bl true) S) (hn1 : gNe S pw pw = some (.bl false))
    (ht : m_square_times [d1, d2] S = .ok m2 S) (hl : m__law_product [d1, d2] S = .ok m2 S) (hn2 : gNe S m2 m2 = some (.bl false)) (hq : m_square_poly [d1] S = .ok pp S) (hw2 : m__law_are_whole [.tup [pp]] S = .ok (.bl true) S) (hn3 : gNe S pp pp = some (.bl false))
    {o0 o1 o2 o3 o4 o9 o10 o11 o12 o13 o14 o15 : Option D} {NN B C : Sl → Sto → Prop} {TT : D → Sto → Prop} (h : ∀ o9 o10 o11 o12, NN [o0, o1, o2, o3, o4, some d1, some d2, some (.int k), some pw, o9, o10, o11, o12, o13, o14, o15] S) :
    (lkPoly [o0, o1, o2, o3, o4, some d1, some d2, some (.int k), some pw, o9, o10, o11, o12, o13, o14, o15] S).post NN TT B C := by
  unfold lkPoly
  refine s_seq ?_
  refine s_asg ?_
  refine p_call ?_
  refine p_cons ?_
  refine p_var rfl ?_
  refine p_nil ?_
  refine Res.post.of_eq hpo ?_
  refine s_name (Nat.le_of_ble_eq_true rfl) ?_
  dsimp only [List.set_cons_zero, List.set_cons_succ]
  refine s_for ?_
  with_reducible refine p_range1 ?_
  refine p_cons ?_
  refine p_c ?_
  refine p_nil ?_
  refine ⟨_, rfl, by decide, by decide, ?_⟩
  have e2 : rangeD 0 2 = (List.range 2).map fun i : Nat => D.int (i : Int) := rfl
  rw [e2]
  with_reducible refine s_forT (fun i : Nat => D.int (i : Int)) (fun xs δ S2 => ∃ (o9 o11 o12 : Option D), S = S2 ∧ δ = [o0, o1, o2, o3, o4, some d1, some d2, some (.int k), some pw, o9, some pp, o11, o12, o13, o14, o15]) ?_ ?_ _ _ _ ⟨_, _, _, rfl, rfl⟩
  · rintro x xs δ S2 ⟨o9, o11, o12, rfl, rfl⟩
    generalize D.int (x : Int) = dx
    refine s_name (Nat.le_of_ble_eq_true rfl) ?_
    dsimp only [List.set_cons_zero, List.set_cons_succ]
    exact lkIn_spec hp hw hn1 ht hl hn2 hq hw2 hn3 fun o11 o12 => ⟨_, _, _, rfl, rfl⟩
  · rintro δ S2 ⟨o9, o11, o12, rfl, rfl⟩
    exact h _ _ _ _
theorem due_spec {n : Nat} (hn : n ≤ 6) {nn : Int} (hnn : nn = (n : Int)) {S : Sto} {o0 o1 o2 o3 o5 o6 o7 o8 o9 o10 o11 o12 o13 o14 o15 : Option D} {Q : D → Sto → Prop} (h : Q (sqD n (smu 1 (one n))) S) : (lkDueE [o0, o1, o2, o3, some (.int nn), o5, o6, o7, o8, o9, o10, o11, o12, o13, o14, o15] S).post Q := by
  have hrg : rangeD 0 nn = (List.range n).map fun i : Nat => D.int (i : Int) := by rw [hnn]; exact rangeD_nat n
  have hit : ∀ (δ : Sl) (T : Sto), δ[4]? = some (some (.int nn)) → rRange (rCons (rVar 4) rNil) δ T = .ok ((List.range n).map fun i : Nat => D.int (i : Int)) T := fun δ T h => exact_of (by
    with_reducible refine p_range1 ?_
    refine p_cons ?_
    refine p_var h ?_
    refine p_nil ?_
    exact ⟨_, rfl, by omega, by omega, hrg, rfl⟩)
  have he : sqD n (smu 1 (one n)) = sqD n fun i j => if (i : Int) = (j : Int) then 1 else 0 := sqD_congr fun i j hi hj => by
    show 1 * (if i = j ∧ i < n then (1 : Int) else 0) = _
    by_cases e : i = j
    · rw [if_pos ⟨e, hi⟩, if_pos (by omega)]; rfl
    · rw [if_neg (fun z => e z.1), if_neg (by omega)]; rfl
  rw [he] at h
  unfold lkDueE
  refine p_as ?_
  refine p_cons ?_
  refine p_keep ?_
  refine lc_map (xs := List.range n) (ti := fun i : Nat => D.int (i : Int)) (f := fun i : Nat => rowD' n (fun i j => if (i : Int) = (j : Int) then 1 else 0) i) (Nat.lt_of_succ_le (Nat.le_of_ble_eq_true rfl)) (hit _ _ rfl) (by rw [List.length_range]; omega) (fun i hi => exact_of ?_) ?_
  · obtain ⟨ii, hii⟩ : ∃ k : Int, k = (i : Int) := ⟨_, rfl⟩
    have hrow : rowD' n (fun i j => if (i : Int) = (j : Int) then 1 else 0) i = .tup ((List.range n).map fun j : Nat => D.int (if ii = (j : Int) then 1 else 0)) := by rw [hii]; rfl
    rw [hrow, ← hii]
    dsimp only [wipeD, List.set_cons_zero, List.set_cons_succ]
    refine p_as ?_
    refine p_cons ?_
    refine p_keep ?_
    refine lc_map (xs := List.range n) (ti := fun i : Nat => D.int (i : Int)) (f := fun j : Nat => D.int (if ii = (j : Int) then 1 else 0)) (Nat.lt_of_succ_le (Nat.le_of_ble_eq_true rfl)) (hit _ _ rfl) (by rw [List.length_range]; omega) (fun j hj => exact_of ?_) ?_
    · obtain ⟨jj, hjj⟩ : ∃ k : Int, k = (j : Int) := ⟨_, rfl⟩
      rw [← hjj]
      dsimp only [wipeD, List.set_cons_zero, List.set_cons_succ]
      refine p_as ?_
      refine p_cons ?_
      refine p_bin ?_
      refine p_var rfl ?_
      refine p_var rfl ?_
      refine o_eqI ?_
      refine p_nil ?_
      refine p_lift (show gInt S [.bl (ii == jj)] = some (.int (if (ii == jj) = true then 1 else 0)) from rfl) ?_
      refine ⟨?_, rfl⟩
      by_cases e : ii = jj
      · rw [if_pos e, if_pos (by rw [e]; exact beq_self_eq_true jj)]
      · rw [if_neg e, if_neg (by rw [beq_iff_eq]; exact e)]
    · refine ⟨_, rfl, ?_⟩
      refine p_nil ?_
      exact p_lift (show gTuple S [.lst _] = some (.tup _) from rfl) ⟨rfl, rfl⟩
  · refine ⟨_, rfl, ?_⟩
    refine p_nil ?_
    exact p_lift (show gTuple S [.lst _] = some (.tup _) from rfl) h
theorem gNe_of {S : Sto} {d : D} (h : ∀ Q : D → Sto → Prop, Q (.bl false) S → (Res.lift (gNe S d d) S).post Q) : gNe S d d = some (.bl false) := by
  have := h (fun z S' => z = .bl false) rfl
  cases e : gNe S d d with
  | none => rw [e] at this; exact absurd this id
  | some z =>
    rw [e] at this
    rw [show z = .bl false from this]
theorem gNe_sq {S : Sto} {n : Nat} {A : Mt} (h : BM (2 ^ 2000) A) : gNe S (sqD n A) (sqD n A) = some (.bl false) := gNe_of fun Q q => o_neSq h q
theorem gNe_ints {S : Sto} {xs : List Int} (h : BdI (2 ^ 2000) xs) : gNe S (.tup (xs.map .int)) (.tup (xs.map .int)) = some (.bl false) := gNe_of fun Q q => o_neInts h q
/-- the poly of a drawn square, and its bounds -/
theorem poly_of_sq {n : Nat} (h1 : 1 ≤ n) (hn : n ≤ 6) {A : Mt} (hc : Cl n A) (hA : Bd40 A) : ∃ P : List Int, Bel n A P ∧ (∀ z, evI P z = detI n (chm A z)) ∧ BdI (2 ^ 900) P := by
  obtain ⟨m, rfl⟩ : ∃ m, n = m + 1 := ⟨n - 1, by omega⟩
  obtain ⟨P, p1, p2, p3, p4, p5⟩ := fl_main m hc
  obtain ⟨z, S1, _, ⟨⟨l, _, hl⟩, _⟩⟩ := (det_spec (m + 1) hn 8 (by omega) (chE A) (chE_ok hA) [] rfl).ex
  have hlen := hl.ex (chE_len A)
  have hlP : l = P := uniq l P 0 (by rw [hlen, p1]) fun z _ => by
    rw [hl.ev z, p5 z]
    exact det_congr fun a b _ _ => chE_ev A a b z
  subst hlP
  exact ⟨l, ⟨p1, p2, p3⟩, p5, fun c hc => Nat.le_trans (hl.bd c hc) (Nat.pow_le_pow_right (by decide) (by omega))⟩
theorem lkDue_spec {n : Nat} (h1 : 1 ≤ n) (hn : n ≤ 6) {nn : Int} (hnn : nn = (n : Int)) {A B : Mt} (hA : Cl n A) (hA4 : Bd40 A) (hB4 : Bd40 B) {t : Nat} (ht : t ≤ 4) {tt : Int} (htt : tt = (t : Int)) {S : Sto} (hS : Sane S) {o0 o1 o2 o3 o8 o9 o10 o11 o12 o13 o14 o15 : Option D} {NN BB C : Sl → Sto → Prop} {TT : D → Sto → Prop}
    (h : ∀ o8 o9 o10 o11 o12, NN [o0, o1, o2, o3, some (.int nn), some (sqD n A), some (sqD n B), some (.int tt), o8, o9, o10, o11, o12, o13, o14, o15] S) : (lkDue [o0, o1, o2, o3, some (.int nn), some (sqD n A), some (sqD n B), some (.int tt), o8, o9, o10, o11, o12, o13, o14, o15] S).post NN TT BB C := by
  have two : ∀ {a b : Nat}, a ≤ b → (2 ^ a : Nat) ≤ 2 ^ b := fun h => Nat.pow_le_pow_right (by decide) h
  have h40 : (10 ^ 40 : Nat) < 2 ^ 141 := by decide
  have lt1 : ∀ {x a : Nat}, x ≤ 2 ^ a → x < 2 ^ (a + 1) := fun {x a} h => Nat.lt_of_le_of_lt h (by rw [Nat.pow_succ]; have := Nat.pow_pos (n := a) (show 0 < 2 by decide); omega)
  have hfp : ∀ k, k ≤ 10 → ∀ i m j, mulFits (powR n A k i m) (A m j) = true := fun k hk i m j => fits_of (a := 1401) (b := 141) (lt1 (Nat.le_trans (bm_pow hn hA4 k i m) (two (by omega)))) (Nat.lt_of_le_of_lt (hA4 m j) h40) (by decide)
  have hfb : ∀ i m j, mulFits (A i m) (B m j) = true := fun i m j => fits_of (a := 141) (b := 141) (Nat.lt_of_le_of_lt (hA4 i m) h40) (Nat.lt_of_le_of_lt (hB4 m j) h40) (by decide)
  obtain ⟨P, hP, hPe, hPb⟩ := poly_of_sq h1 hn hA hA4
  have hfe : ∀ k i j m, mulFits (A i j) (evM n A (P.drop k) j m) = true := fun k i j m => by
    have hb := bm_evM hn hA4 (p := P.drop k) (fun x hx => hPb x (List.mem_of_mem_drop hx)) j m
    have hl : (P.drop k).length ≤ 7 := by rw [List.length_drop, hP.len]; omega
    refine fits_of (a := 141) (b := 1881) (Nat.lt_of_le_of_lt (hA4 i j) h40) (lt1 (Nat.le_trans hb ?_)) (by decide)
    rw [← Nat.pow_add]
    exact two (by omega)
  have hpo := law_poly_spec hn hA4 hP.len hPe S hS
  have hsp := square_poly_spec n hn hA hfe hP S hS
  have hpw := square_power_spec hn (t := t) (by omega) htt (fun k hk => hfp k (by omega)) S hS
  have htm := square_times_spec n hn A B hfb S hS
  have hlp := lproduct_spec n hn A B hfb S hS
  have hbm : BM (2 ^ 2000) (mul n A B) := fun i j => by
    have := bm_mul (n := n) hA4 hB4 i j
    refine Nat.le_trans this (Nat.le_trans (Nat.mul_le_mul hn (Nat.mul_le_mul (Nat.le_of_lt h40) (Nat.le_of_lt h40))) ?_)
    refine Nat.le_trans (Nat.mul_le_mul_right _ (show 6 ≤ 2 ^ 3 by decide)) ?_
    rw [← Nat.pow_add, ← Nat.pow_add]
    exact two (by decide)
  have hbp : BM (2 ^ 2000) (powR n A t) := fun i j => Nat.le_trans (bm_pow hn hA4 t i j) (two (by omega))
  have hw := whole_sq hn (powR n A t) S hS
  have hw2 := are_whole_spec (ds := [.tup (P.map .int)]) (fun d hd => ⟨P, by rw [hP.len]; omega, List.mem_singleton.mp hd⟩) S hS
  have hn1 := gNe_sq (S := S) (n := n) hbp
  have hn2 := gNe_sq (S := S) (n := n) hbm
  have hn3 := gNe_ints (S := S) (xs := P) fun c hc => Nat.le_trans (hPb c hc) (two (by decide))
  have hpr : ∀ k, k < t → m__law_product [sqD n (powR n A k), sqD n A] S = .ok (sqD n (powR n A (k + 1))) S := fun k hk => lproduct_spec n hn (powR n A k) A (hfp k (by omega)) S hS
  have hrg : rangeD 0 tt = (List.range t).map fun i : Nat => D.int (i : Int) := by rw [htt]; exact rangeD_nat t
  have e0 : sqD n (smu 1 (one n)) = sqD n (powR n A 0) := rfl
  obtain ⟨own, hown⟩ : ∃ own : Nat → D, own = fun k => sqD n (powR n A k) := ⟨_, rfl⟩
  have q0 : sqD n (powR n A 0) = own 0 := by rw [hown]
  have qt : sqD n (powR n A t) = own t := by rw [hown]
  have qk : ∀ k, sqD n (powR n A k) = own k := fun k => by rw [hown]
  simp only [qk] at hpr
  rw [qt] at hpw hw hn1
  unfold lkDue
  refine s_seq ?_
  refine s_asg ?_
  refine due_spec hn hnn ?_
  rw [e0, q0]
  clear hown qk qt q0 e0 hfe hfp hfb hP hPe hPb
  generalize sqD n A = d1 at *
  generalize sqD n B = d2 at *
  generalize sqD n (mul n A B) = m2 at *
  generalize D.tup (P.map .int) = pp at *
  refine s_name (Nat.le_of_ble_eq_true rfl) ?_
  dsimp only [List.set_cons_zero, List.set_cons_succ]
  refine s_seq ?_
  refine s_for ?_
  with_reducible refine p_range1 ?_
  refine p_cons ?_
  refine p_var rfl ?_
  refine p_nil ?_
  refine ⟨_, rfl, by omega, by omega, ?_⟩
  rw [hrg]
  with_reducible refine s_forT (fun i : Nat => D.int (i : Int)) (fun xs δ S2 => ∃ (k : Nat) (o9 : Option D), k + xs.length = t ∧ S = S2 ∧ δ = [o0, o1, o2, o3, some (.int nn), some d1, some d2, some (.int tt), some (own k), o9, o10, o11, o12, o13, o14, o15]) ?_ ?_ _ _ _ ?_
  · rintro x xs δ S2 ⟨k, o9, hk, rfl, rfl⟩
    rw [List.length_cons] at hk
    generalize D.int (x : Int) = dx
    refine s_name (Nat.le_of_ble_eq_true rfl) ?_
    dsimp only [List.set_cons_zero, List.set_cons_succ]
    unfold lkProd
    refine s_asg ?_
    refine p_call ?_
    refine p_cons ?_
    refine p_var rfl ?_
    refine p_cons ?_
    refine p_var rfl ?_
    refine p_nil ?_
    refine Res.post.of_eq (hpr k (by omega)) ?_
    refine s_name (Nat.le_of_ble_eq_true rfl) ?_
    dsimp only [List.set_cons_zero, List.set_cons_succ]
    exact ⟨k + 1, _, by omega, rfl, rfl⟩
  · rintro δ S2 ⟨k, o9, hk, rfl, rfl⟩
    have hk : k = t := by simpa using hk
    subst hk
    exact lkPoly_spec hpo hpw hw hn1 htm hlp hn2 hsp hw2 hn3 fun o9 o10 o11 o12 => h _ _ _ _ _
  · exact ⟨0, _, by rw [List.length_range]; omega, rfl, rfl⟩
end DL
set_option Elab.async false
set_option linter.all false
set_option maxRecDepth 100000
set_option maxHeartbeats 1000000
set_option autoImplicit false
namespace DL
open PySem L2
open Emb
local macro_rules | `(tactic| walk_at "1") => `(tactic| with_reducible first
  | refine s_seq ?_ | refine s_asg ?_ | refine s_ret ?_ | refine s_if ?_ | refine s_expr ?_ | refine s_next ?_ | refine s_brk ?_ | refine s_cont ?_ | refine s_for ?_ | refine s_while ?_
  | refine p_c ?_ | refine p_bin ?_ | refine p_as ?_ | refine p_cons ?_ | refine p_nil ?_ | refine p_un ?_ | refine p_call ?_ | refine p_if ?_ | refine p_own ?_
  | refine p_keep ?_ | refine p_tru ?_ | refine p_and ?_ | refine p_or ?_ | refine p_not ?_ | refine p_val ?_ | refine p_rand ?_ | refine p_ror ?_ | refine p_rnot ?_ | refine p_chain ?_ | refine p_bif ?_
  | refine o_add ?_ | refine o_sub ?_ | refine o_ltU ?_ | refine o_leU ?_ | refine o_gtU ?_ | refine o_geU ?_ | refine o_neg ?_ | refine o_eqI ?_ | refine o_neI ?_ | refine o_abs ?_ | refine o_tru ?_ | refine p_true ?_ | refine p_false ?_
  | refine o_lenT ?_ | refine o_lenL ?_ | refine o_ix0 ?_ | refine o_ix1 ?_ | refine o_ix2 ?_ | refine o_ix0L ?_ | refine o_ix1L ?_ | refine o_ix2L ?_
  | refine s_par ?_ | refine p_yes ?_ | refine p_seq ?_ | refine s_gnil ?_ | refine s_gcons ?_ | refine s_gtux ?_ | refine s_gtupl ?_ | refine p_onone ?_ | refine p_osome ?_ | refine p_get2 ?_ | refine s_putU ?_ | refine p_sortIt ?_)
local macro_rules | `(tactic| walk_at "2") => `(tactic| first
  | walk_at "1"
  | (with_reducible refine p_var2 ?_)
  | ((with_reducible refine s_name ?_ ?_); (· exact Nat.le_of_ble_eq_true rfl); dsimp only [List.set_cons_zero, List.set_cons_succ])
  | (with_reducible refine p_tup ?_) | (with_reducible refine p_lst ?_) | ((with_reducible refine ⟨?_, ?_⟩); (· exact Nat.le_of_ble_eq_true rfl))
  | ((with_reducible refine p_ex2 (x := ?_) (y := ?_) ?_ ?_); rotate_left; rotate_left; (· rfl); refine ⟨?_, ?_, ?_⟩; (· exact Nat.le_of_ble_eq_true rfl); (· exact Nat.le_of_ble_eq_true rfl); dsimp only [List.set_cons_zero, List.set_cons_succ])
  | ((with_reducible refine p_isT ?_ ?_); (· rfl)) | ((with_reducible refine p_isF ?_ ?_); (· rfl))
  | ((with_reducible refine p_ex (x := ?_) ?_ ?_); rotate_left; (· rfl)))
local macro_rules | `(tactic| walk_at "3") => `(tactic| repeat walk_at "2")
open PR
theorem is_sq_true {n : Nat} (h1 : 1 ≤ n) (hn : n ≤ 6) (A : Mt) (S : Sto) (hS : Sane S) : m_is_square [sqD n A] S = .ok (.bl true) S := by
  have hl : ((List.range n).map (rowD' n A)).length = n := by rw [List.length_map, List.length_range]
  have hrow : ∀ d ∈ (List.range n).map (rowD' n A), ∃ row : List Int, row.length = n ∧ d = .tup (row.map .int) := fun d hd => by
    obtain ⟨i, _, rfl⟩ := List.mem_map.mp hd
    exact ⟨(List.range n).map (A i), by rw [List.length_map, List.length_range], by unfold rowD'; rw [rowN_int]⟩
  have h2 := is_square_tup (ds := (List.range n).map (rowD' n A)) (fun d hd => by
    obtain ⟨row, hl, rfl⟩ := hrow d hd
    exact .tup _ (by rw [List.length_map]; omega) fun x hx => by
      obtain ⟨i, _, rfl⟩ := List.mem_map.mp hx
      exact .inl ⟨i, rfl⟩) (by rw [hl]; omega) S hS
  have h3 : sqB ((List.range n).map (rowD' n A)) = true := by
    unfold sqB
    rw [hl, decide_eq_true h1, decide_eq_true hn, Bool.and_self, Bool.true_and]
    refine List.all_eq_true.mpr fun d hd => ?_
    obtain ⟨row, hl, rfl⟩ := hrow d hd
    show (decide ((row.map D.int).length = n) && (row.map D.int).all isW) = true
    rw [List.length_map, decide_eq_true hl, Bool.true_and]
    refine List.all_eq_true.mpr fun x hx => ?_
    obtain ⟨i, _, rfl⟩ := List.mem_map.mp hx
    rfl
  rw [h3] at h2
  exact h2
theorem lkMany_spec {n : Nat} (h1 : 1 ≤ n) (hn : n ≤ 6) {nn : Int} (hnn : nn = (n : Int)) {A B : Mt} (hA : Cl n A) (hA4 : Bd40 A) (hB4 : Bd40 B) {j : Nat} {S : Sto} (hS : Sane S) (hj : Dr S j) {o0 o1 o2 o7 o8 o9 o10 o11 o12 o13 o14 o15 : Option D} {NN BB C : Sl → Sto → Prop} {TT : D → Sto → Prop}
    (h : ∀ S2 o7 o8 o9 o10 o11 o12, Sane S2 → Dr S2 j → NN [o0, o1, o2, some (.ptr j), some (.int nn), some (sqD n A), some (sqD n B), o7, o8, o9, o10, o11, o12, o13, o14, o15] S2) : (lkMany [o0, o1, o2, some (.ptr j), some (.int nn), some (sqD n A), some (sqD n B), o7, o8, o9, o10, o11, o12, o13, o14, o15] S).post NN TT BB C := by
  have q1 := lnext_spec (b := 5) (by decide) (by decide) S hS hj
  unfold lkMany
  have hA0 := sqD n A
  refine s_seq ?_
  refine s_asg ?_
  refine p_call ?_
  refine p_cons ?_
  refine p_var rfl ?_
  refine p_cons ?_
  refine p_c ?_
  refine p_nil ?_
  with_reducible refine Res.post.mono q1 ?_
  rintro z S1 ⟨⟨i, rfl, i0, i1⟩, mv⟩
  refine s_name (Nat.le_of_ble_eq_true rfl) ?_
  dsimp only [List.set_cons_zero, List.set_cons_succ]
  exact lkDue_spec h1 hn hnn hA hA4 hB4 (t := i.toNat) (by omega) (by omega) (mv.sane hS) fun o8 o9 o10 o11 o12 => h _ _ _ _ _ _ _ (mv.sane hS) (mv.dr hj)
theorem lkLook_spec {n : Nat} (h1 : 1 ≤ n) (hn : n ≤ 6) {nn : Int} (hnn : nn = (n : Int)) {A B : Mt} (hA : Cl n A) (hA4 : Bd40 A) (hB4 : Bd40 B) {j : Nat} {S : Sto} (hS : Sane S) (hj : Dr S j) {o0 o1 o2 o7 o8 o9 o10 o11 o12 o13 o14 o15 : Option D} {NN BB C : Sl → Sto → Prop} {TT : D → Sto → Prop}
    (h : ∀ S2 o7 o8 o9 o10 o11 o12, Sane S2 → Dr S2 j → NN [o0, o1, o2, some (.ptr j), some (.int nn), some (sqD n A), some (sqD n B), o7, o8, o9, o10, o11, o12, o13, o14, o15] S2) : (lkLook [o0, o1, o2, some (.ptr j), some (.int nn), some (sqD n A), some (sqD n B), o7, o8, o9, o10, o11, o12, o13, o14, o15] S).post NN TT BB C := by
  have q1 := is_sq_true h1 hn A S hS
  have q2 := no_square_spec hn h1 (A := A) S hS hj
  unfold lkLook
  refine s_seq ?_
  refine s_if ?_
  refine p_or ?_
  refine p_val ?_
  refine p_bin ?_
  refine p_call ?_
  refine p_cons ?_
  refine p_var rfl ?_
  refine p_nil ?_
  with_reducible refine Res.post.of_eq q1 ?_
  refine p_c ?_
  refine p_lift (show gIsN S (.bl true) (.bl true) = some (.bl false) from rfl) ?_
  refine ⟨_, rfl, (fun q => by cases q), fun _ => ?_⟩
  refine p_val ?_
  refine p_bin ?_
  refine p_call ?_
  refine p_cons ?_
  refine p_call ?_
  refine p_cons ?_
  refine p_var rfl ?_
  refine p_cons ?_
  refine p_var rfl ?_
  refine p_nil ?_
  with_reducible refine Res.post.mono q2 ?_
  rintro z S1 ⟨⟨T, W, mv, rfl⟩, hS1, hsq⟩
  refine p_nil ?_
  refine Res.post.of_eq hsq ?_
  refine p_c ?_
  refine p_lift (show gIsN _ (.bl false) (.bl false) = some (.bl false) from rfl) ?_
  refine ⟨_, rfl, (fun q => by cases q), fun _ => ?_⟩
  refine s_next ?_
  have hj1 : Dr (T ++ W) j := by
    obtain ⟨r, i, hg, h0⟩ := mv.dr hj
    exact ⟨r, i, by rw [List.getElem?_append_left (List.getElem?_eq_some_iff.mp hg).1]; exact hg, h0⟩
  exact lkMany_spec h1 hn hnn hA hA4 hB4 hS1 hj1 h
theorem lkTurn_spec {ns : List Int} (hns : ns.length ≤ 63) {k : Nat} (hk : k < 10) {kk : Int} (hkk : kk = (k : Int)) {cell : Int} {S : Sto} (hS : Sane S) {o3 o4 o5 o6 o7 o8 o9 o10 o11 o12 o13 o14 o15 : Option D} {NN BB C : Sl → Sto → Prop} {TT : D → Sto → Prop}
    (h : ∀ S2 j o4 o5 o6 o7 o8 o9 o10 o11 o12, Sane S2 → Dr S2 j → NN [some (.lst (ns.map .int)), some (.int kk), some (.int cell), some (.ptr j), o4, o5, o6, o7, o8, o9, o10, o11, o12, o13, o14, o15] S2) :
    (lkTurn [some (.lst (ns.map .int)), some (.int kk), some (.int cell), o3, o4, o5, o6, o7, o8, o9, o10, o11, o12, o13, o14, o15] S).post NN TT BB C := by
  have sl : 16000000 ≤ sizeLine := by decide
  have q1 := lbegun_spec (cs := cell :: ns) (m := 2 + k) (by rw [List.length_cons]; omega) (by omega) (by omega) S hS
  rw [show ((2 + k : Nat) : Int) = 2 + kk by omega] at q1
  unfold lkTurn
  refine s_seq ?_
  refine s_asg ?_
  refine p_call ?_
  refine p_cons ?_
  refine p_keep ?_
  refine p_bin ?_
  refine p_keep ?_
  refine p_lst ?_
  refine p_cons ?_
  refine p_var rfl ?_
  refine p_nil ?_
  refine ⟨Nat.le_of_ble_eq_true rfl, ?_⟩
  refine ⟨_, rfl, ?_⟩
  refine p_var rfl ?_
  refine p_lift (show gCat S (.lst [.int cell]) (.lst (ns.map .int)) = some (.lst ((cell :: ns).map .int)) by
    unfold gCat deref
    dsimp only
    rw [if_pos (by rw [List.length_map]; show 1 + ns.length ≤ sizeLine; omega)]
    rfl) ?_
  refine ⟨_, rfl, ?_⟩
  refine p_cons ?_
  refine p_c ?_
  refine p_cons ?_
  refine p_bin ?_
  refine p_c ?_
  refine p_var rfl ?_
  refine p_lift (show gAdd S (.int 2) (.int kk) = some (.int (2 + kk)) from rfl) ?_
  refine p_nil ?_
  with_reducible refine Res.post.mono q1 ?_
  rintro z S1 ⟨rfl, r, i, r0, rfl⟩
  have hS1 : Sane (S ++ [drw r i]) := sane_app hS (drw_closed _ _ _)
  have hj1 : Dr (S ++ [drw r i]) S.length := ⟨r, i, get_app, r0⟩
  generalize S ++ [drw r i] = S1 at *
  generalize S.length = j at *
  refine s_name (Nat.le_of_ble_eq_true rfl) ?_
  dsimp only [List.set_cons_zero, List.set_cons_succ]
  have q2 := lnext_spec (b := 8) (by decide) (by decide) S1 hS1 hj1
  refine s_seq ?_
  refine s_asg ?_
  refine p_bin ?_
  refine p_keep ?_
  refine p_lst ?_
  walk_at "3"
  with_reducible refine Res.post.mono q2 ?_
  rintro z S2 ⟨⟨i, rfl, i0, i1⟩, mv2⟩
  refine ix_any (ns := [1, 2, 3, 4, 2, 3, 5, 6]) i0 (by exact i1) fun nn hm => ?_
  have hm : 1 ≤ nn ∧ nn ≤ 6 := by
    simp only [List.mem_cons, List.not_mem_nil, or_false] at hm
    omega
  obtain ⟨n, hnn⟩ : ∃ n : Nat, nn = (n : Int) := ⟨nn.toNat, by omega⟩
  have h1 : 1 ≤ n := by omega
  have h6 : n ≤ 6 := by omega
  refine s_name (Nat.le_of_ble_eq_true rfl) ?_
  dsimp only [List.set_cons_zero, List.set_cons_succ]
  have hS2 := mv2.sane hS1
  have hj2 := mv2.dr hj1
  have q3 := numbers_spec h6 hnn S2 hS2 hj2
  unfold lkTwo
  refine s_seq ?_
  refine s_par ?_
  refine p_cons ?_
  refine p_call ?_
  refine p_cons ?_
  refine p_var rfl ?_
  refine p_cons ?_
  refine p_var rfl ?_
  refine p_nil ?_
  with_reducible refine Res.post.mono q3 ?_
  rintro z S3 ⟨⟨A, rfl, hA, hA4⟩, mv3⟩
  have hS3 := mv3.sane hS2
  have hj3 := mv3.dr hj2
  have q4 := numbers_spec h6 hnn S3 hS3 hj3
  refine p_cons ?_
  refine p_call ?_
  refine p_cons ?_
  refine p_var rfl ?_
  refine p_cons ?_
  refine p_var rfl ?_
  refine p_nil ?_
  with_reducible refine Res.post.mono q4 ?_
  rintro z S4 ⟨⟨B, rfl, hB, hB4⟩, mv4⟩
  refine p_nil ?_
  refine ⟨_, _, rfl, Nat.lt_of_succ_le (Nat.le_of_ble_eq_true rfl), Nat.lt_of_succ_le (Nat.le_of_ble_eq_true rfl), ?_⟩
  dsimp only [List.set_cons_zero, List.set_cons_succ]
  exact lkLook_spec h1 h6 hnn hA hA4 hB4 (mv4.sane hS3) (mv4.dr hj3) fun S5 o7 o8 o9 o10 o11 o12 hS5 hj5 => h _ _ _ _ _ _ _ _ _ _ _ hS5 hj5
theorem lkFor_main {ns cs : List Int} (hns : ns.length ≤ 63) (hc : cs.length ≤ 10) (hne : cs ≠ []) {o1 o2 o3 o4 o5 o6 o7 o8 o9 o10 o11 o12 o13 o14 o15 : Option D} {S : Sto} (hS0 : Sane S) : (forL (gTup (gCons (gName 1) (gCons (gName 2) gNil))) lkTurn (enumD 0 (cs.map .int)) [some (.lst (ns.map .int)), o1, o2, o3, o4, o5, o6, o7, o8, o9, o10, o11, o12, o13, o14, o15] S).post (fun δ S => Sane S ∧ ∃ (j : Nat) (o1 o2 o4 o5 o6 o7 o8 o9 o10 o11 o12 o13 o14 o15 : Option D), Dr S j ∧ δ = [some (.lst (ns.map .int)), o1, o2, some (.ptr j), o4, o5, o6, o7, o8, o9, o10, o11, o12, o13, o14, o15]) (fun _ _ => False) NoS NoS := by
  rw [enum_int]
  with_reducible refine s_forT (fun q : Nat × Int => D.tux [.int (q.1 : Int), .int q.2]) (fun es δ S2 => ∃ (k : Nat) (rest : List Int) (o1 o2 o3 o4 o5 o6 o7 o8 o9 o10 o11 o12 o13 o14 o15 : Option D), k + rest.length = cs.length ∧ es = enI k rest ∧ Sane S2 ∧ (1 ≤ k → ∃ j, o3 = some (.ptr j) ∧ Dr S2 j) ∧ δ = [some (.lst (ns.map .int)), o1, o2, o3, o4, o5, o6, o7, o8, o9, o10, o11, o12, o13, o14, o15]) ?_ ?_ _ _ _ ?_
  · rintro q es δ S2 ⟨k, rest, o1, o2, o3, o4, o5, o6, o7, o8, o9, o10, o11, o12, o13, o14, o15, hk, he, hS, _, rfl⟩
    obtain ⟨r, hr1, hq1, hes⟩ := enI_cons he.symm
    have hkl : k < 10 := by rw [hr1, List.length_cons] at hk; omega
    obtain ⟨kk, hkk⟩ : ∃ k : Int, k = (q.1 : Int) := ⟨_, rfl⟩
    rw [← hkk]
    refine Res.post.of_eq (show gTup (gCons (gName 1) (gCons (gName 2) gNil)) (.tux [.int kk, .int q.2]) [some (.lst (ns.map .int)), o1, o2, o3, o4, o5, o6, o7, o8, o9, o10, o11, o12, o13, o14, o15] S2 = .ok [some (.lst (ns.map .int)), some (.int kk), some (.int q.2), o3, o4, o5, o6, o7, o8, o9, o10, o11, o12, o13, o14, o15] S2 from rfl) ?_
    refine lkTurn_spec hns hkl (by omega) hS fun S3 j o4 o5 o6 o7 o8 o9 o10 o11 o12 hS3 hj3 => ?_
    exact ⟨k + 1, r, _, _, _, _, _, _, _, _, _, _, _, _, _, _, _, by rw [hr1, List.length_cons] at hk; omega, hes, hS3, fun _ => ⟨j, rfl, hj3⟩, rfl⟩
  · rintro δ S2 ⟨k, rest, o1, o2, o3, o4, o5, o6, o7, o8, o9, o10, o11, o12, o13, o14, o15, hk, he, hS, hj, rfl⟩
    have hre := enI_nil he
    rw [hre, List.length_nil] at hk
    obtain ⟨j, rfl, hj2⟩ := hj (by
      have : cs.length ≠ 0 := fun z => hne (List.length_eq_zero_iff.mp z)
      omega)
    exact ⟨hS, j, _, _, _, _, _, _, _, _, _, _, _, _, _, _, hj2, rfl⟩
  · exact ⟨0, cs, _, _, _, _, _, _, _, _, _, _, _, _, _, _, _, by omega, rfl, hS0, (fun h => absurd h (by decide)), rfl⟩
theorem cut10 (ns : List Int) : cutD (ns.map D.int) none (some 10) = (ns.take 10).map D.int := by
  unfold cutD
  rw [List.length_map]
  show ((ns.map D.int).drop 0).take (min 10 ns.length - 0) = _
  rw [List.drop_zero, ← List.map_take, Nat.sub_zero]
  congr 1
  rcases Nat.le_total 10 ns.length with h | h
  · rw [Nat.min_eq_left h]
  · rw [Nat.min_eq_right h, List.take_of_length_le (Nat.le_refl _), List.take_of_length_le h]
theorem lkFor_spec {ns : List Int} (hns : ns.length ≤ 63) {S : Sto} (hS : Sane S) {o1 o2 o3 o4 o5 o6 o7 o8 o9 o10 o11 o12 o13 o14 o15 : Option D} {TT : D → Sto → Prop} {NN : Sl → Sto → Prop} (h : ∀ (S2 : Sto) (j : Nat) (o1 o2 o4 o5 o6 o7 o8 o9 o10 o11 o12 o13 o14 o15 : Option D), Sane S2 → Dr S2 j → NN [some (.lst (ns.map .int)), o1, o2, some (.ptr j), o4, o5, o6, o7, o8, o9, o10, o11, o12, o13, o14, o15] S2) : (lkFor [some (.lst (ns.map .int)), o1, o2, o3, o4, o5, o6, o7, o8, o9, o10, o11, o12, o13, o14, o15] S).post NN TT NoS NoS := by
  have fin : ∀ cs : List Int, cs ≠ [] → (forL (gTup (gCons (gName 1) (gCons (gName 2) gNil))) lkTurn (enumD 0 (cutD (cs.map D.int) none (some 10))) [some (.lst (ns.map .int)), o1, o2, o3, o4, o5, o6, o7, o8, o9, o10, o11, o12, o13, o14, o15] S).post NN TT NoS NoS := fun cs hc => by
    rw [cut10]
    refine (lkFor_main hns (List.length_take_le 10 cs) (fun z => hc ?_) hS).mono (fun δ S2 ⟨hS2, j, o1, o2, o4, o5, o6, o7, o8, o9, o10, o11, o12, o13, o14, o15, hj, e⟩ => by rw [e]; exact h _ _ _ _ _ _ _ _ _ _ _ _ _ _ _ _ hS2 hj) (fun _ _ z => z.elim) (fun _ _ z => z.elim) (fun _ _ z => z.elim)
    cases cs with
    | nil => rfl
    | cons a r => cases z
  unfold lkFor
  refine s_for ?_
  refine p_enum ?_
  refine p_cons ?_
  refine p_cutL ?_
  refine p_ror ?_
  refine p_var rfl ?_
  refine ⟨!(ns.map D.int).isEmpty, rfl, (fun q => ?_), fun q => ?_⟩
  · refine p_onone ?_
    refine p_osome ?_
    refine p_c ?_
    refine ⟨_, rfl, ?_⟩
    refine ⟨_, rfl, ?_⟩
    refine p_nil ?_
    refine ⟨_, rfl, ?_⟩
    refine fin ns fun e => ?_
    rw [e] at q
    cases q
  · refine p_keep ?_
    refine p_lst ?_
    refine p_cons ?_
    refine p_c ?_
    refine p_nil ?_
    refine ⟨Nat.le_of_ble_eq_true rfl, ?_⟩
    refine ⟨_, rfl, ?_⟩
    refine p_onone ?_
    refine p_osome ?_
    refine p_c ?_
    refine ⟨_, rfl, ?_⟩
    refine ⟨_, rfl, ?_⟩
    refine p_nil ?_
    refine ⟨_, rfl, ?_⟩
    exact fin [4] (by simp)
/-! ### the square of two that changes about -/
def W2 : Mt := fun i j => if (i = 0 ∧ j = 1) ∨ (i = 1 ∧ j = 0) then 1 else 0
theorem sm_two (f : Nat → Int) : Sm 2 f = f 0 + f 1 := by rw [sm_succ, sm_succ, sm_zero]; omega
theorem w2_even : mul 2 (smu 1 (one 2)) W2 = W2 := mt_ext fun i j => by
  show Sm 2 _ = _
  rw [sm_two]
  unfold smu one W2
  rcases i with _ | _ | i <;> rcases j with _ | _ | j <;> simp
theorem w2_odd : mul 2 W2 W2 = smu 1 (one 2) := mt_ext fun i j => by
  show Sm 2 _ = _
  rw [sm_two]
  unfold smu one W2
  rcases i with _ | _ | i <;> rcases j with _ | _ | j <;> simp
theorem w2_pow : ∀ t, powR 2 W2 t = if t % 2 = 0 then smu 1 (one 2) else W2
  | 0 => rfl
  | t + 1 => by
    show mul 2 (powR 2 W2 t) W2 = _
    rw [w2_pow t]
    rcases Nat.mod_two_eq_zero_or_one t with e | e
    · rw [if_pos e, if_neg (by omega), w2_even]
    · rw [if_neg (by omega), if_pos (by omega), w2_odd]
theorem w2_bm (t : Nat) : BM 1 (powR 2 W2 t) := by
  rw [w2_pow]
  split
  · exact bm_one 2
  · intro i j
    unfold W2
    split <;> decide
def z6 : List D := (List.range 6).map fun k : Nat => D.tup ((List.replicate 6 (k : Int)).map .int)
theorem sqB_z6 : sqB z6 = true := rfl
theorem z6_row : ∀ d ∈ z6, RowS d := fun d hd => by
  obtain ⟨k, _, rfl⟩ := List.mem_map.mp hd
  exact .tup _ (by rw [List.length_map, List.length_replicate]; decide) fun x hx => by
    obtain ⟨i, _, rfl⟩ := List.mem_map.mp hx
    exact .inl ⟨i, rfl⟩
theorem rep6 (S : Sto) (k : Int) : gRepF S (.lst [.int k]) (.int 6) = some (.lst ((List.replicate 6 k).map .int)) := by
  have sl : 16000000 ≤ sizeLine := by decide
  unfold gRepF
  dsimp only
  rw [if_pos ⟨by decide, by decide, by show 1 * 6 ≤ sizeLine; omega⟩]
  rfl
theorem lkEnd_spec {j : Nat} {S : Sto} (hS : Sane S) (hj : Dr S j) {o0 o1 o2 o4 o5 o6 o7 o8 o9 o10 o11 o12 o13 o14 o15 : Option D} : (lkEnd [o0, o1, o2, some (.ptr j), o4, o5, o6, o7, o8, o9, o10, o11, o12, o13, o14, o15] S).post NoS (fun z S1 => z = .bl true) NoS NoS := by
  have sl : 16000000 ≤ sizeLine := by decide
  have q1 := lnext_spec (b := 300) (by decide) (by decide) S hS hj
  unfold lkEnd
  refine s_seq ?_
  refine s_asg ?_
  refine p_bin ?_
  refine p_c ?_
  refine p_call ?_
  refine p_cons ?_
  refine p_var rfl ?_
  refine p_cons ?_
  refine p_c ?_
  refine p_nil ?_
  with_reducible refine Res.post.mono q1 ?_
  rintro z S1 ⟨⟨i, rfl, i0, i1⟩, mv⟩
  refine p_lift (show gAdd S1 (.int 1001) (.int i) = some (.int (1001 + i)) from rfl) ?_
  have hS1 := mv.sane hS
  obtain ⟨f, hf⟩ : ∃ f : Nat, 1001 + i = (f : Int) := ⟨(1001 + i).toNat, by omega⟩
  have hf2 : f ≤ 100000 := by omega
  generalize 1001 + i = ff at *
  have q2 := square_power_spec (n := 2) (by decide) (A := W2) (t := f) hf2 hf (fun k hk i m j => fits_l (Nat.lt_of_le_of_lt (w2_bm k i m) (by decide))) S1 hS1
  have e0 : sqD 2 W2 = .tup [.tup [.int 0, .int 1], .tup [.int 1, .int 0]] := rfl
  have e1 : sqD 2 (smu 1 (one 2)) = .tup [.tup [.int 1, .int 0], .tup [.int 0, .int 1]] := rfl
  have hix : gIx S1 (.tup [.tup [.tup [.int 1, .int 0], .tup [.int 0, .int 1]], .tup [.tup [.int 0, .int 1], .tup [.int 1, .int 0]]]) (.int (ff.fmod 2)) = some (sqD 2 (powR 2 W2 f)) := by
    rw [w2_pow]
    have hm : ff.fmod 2 = ((f % 2 : Nat) : Int) := by rw [Int.fmod_eq_emod_of_nonneg _ (by decide), hf]; omega
    rw [hm]
    rcases Nat.mod_two_eq_zero_or_one f with e | e
    · rw [e, if_pos rfl, e1]; rfl
    · rw [e, if_neg (by decide), e0]; rfl
  have q3 : gNe S1 (sqD 2 (powR 2 W2 f)) (sqD 2 (powR 2 W2 f)) = some (.bl false) := gNe_sq fun i j => Nat.le_trans (w2_bm f i j) (Nat.one_le_two_pow)
  rw [e0] at q2
  generalize sqD 2 (powR 2 W2 f) = pw at *
  refine s_name (Nat.le_of_ble_eq_true rfl) ?_
  dsimp only [List.set_cons_zero, List.set_cons_succ]
  refine s_seq ?_
  refine s_if ?_
  refine p_val ?_
  refine p_bin ?_
  refine p_call ?_
  refine p_cons ?_
  walk_at "3"
  refine Res.post.of_eq q2 ?_
  refine p_bin ?_
  walk_at "3"
  refine o_mod (by decide) ?_
  refine p_lift hix ?_
  refine p_lift q3 ?_
  refine ⟨_, rfl, (fun q => by cases q), fun _ => ?_⟩
  refine s_next ?_
  have q4 := is_square_tup z6_row (by decide) S1 hS1
  rw [sqB_z6] at q4
  refine s_ret ?_
  refine p_bin ?_
  refine p_call ?_
  refine p_cons ?_
  refine p_as ?_
  refine p_cons ?_
  refine p_keep ?_
  refine lc_map (xs := List.range 6) (ti := fun i : Nat => D.int (i : Int)) (f := fun k : Nat => D.tup ((List.replicate 6 (k : Int)).map .int)) (Nat.lt_of_succ_le (Nat.le_of_ble_eq_true rfl)) (exact_of ?_) (by decide) (fun a ha => exact_of ?_) ?_
  · with_reducible refine p_range1 ?_
    refine p_cons ?_
    refine p_c ?_
    refine p_nil ?_
    exact ⟨_, rfl, by decide, by decide, rfl, rfl⟩
  · generalize (a : Int) = aa
    dsimp only [wipeD, List.set_cons_zero, List.set_cons_succ]
    refine p_as ?_
    refine p_cons ?_
    refine p_keep ?_
    refine p_bin ?_
    refine p_lst ?_
    refine p_cons ?_
    refine p_var rfl ?_
    refine p_nil ?_
    refine ⟨Nat.le_of_ble_eq_true rfl, ?_⟩
    refine p_c ?_
    refine p_lift (rep6 S1 aa) ?_
    refine ⟨_, rfl, ?_⟩
    refine p_nil ?_
    exact p_lift (show gTuple _ [.lst ((List.replicate 6 aa).map D.int)] = some (.tup ((List.replicate 6 aa).map .int)) from rfl) ⟨rfl, rfl⟩
  refine ⟨_, rfl, ?_⟩
  refine p_nil ?_
  have e6 : ((List.range 6).map fun k : Nat => D.tup ((List.replicate 6 (k : Int)).map .int)) = z6 := rfl
  rw [e6]
  generalize z6 = zz at *
  refine p_lift (show gTuple _ [.lst zz] = some (.tup zz) from rfl) ?_
  refine p_nil ?_
  refine Res.post.of_eq q4 ?_
  refine p_c ?_
  exact p_lift (show gIs S1 (.bl true) (.bl true) = some (.bl true) from rfl) rfl
theorem law_spec (ns : List Int) (hn : ns.length ≤ 63) : ∃ S, m_law [.lst (ns.map .int)] [] = .ok (.bl true) S := by
  refine ⟨[], same_of (m_def ?_)⟩
  show (b_law [some (.lst (ns.map .int)), none, none, none, none, none, none, none, none, none, none, none, none, none, none, none] []).post _ _ _ _
  rw [b_law_eq]
  have h00 : Sane [] := rfl
  refine s_seq ?_
  refine lkFor_spec hn h00 fun S2 j o1 o2 o4 o5 o6 o7 o8 o9 o10 o11 o12 o13 o14 o15 hS2 hj2 => ?_
  refine (lkEnd_spec hS2 hj2).mono (fun _ _ z => z.elim) (fun z S1 e => ?_) (fun _ _ z => z.elim) (fun _ _ z => z.elim)
  subst e
  exact ⟨rfl, rfl, rfl⟩
end DL
open PySem PySem.W PyProof.Rows
theorem PySem.Challenge.cw_roundless_k29_squares_and_polys_holds : PySem.Challenge.rw_roundless_k29_squares_and_polys.Holds := by
  exact DL.holds_of fun ns h => DL.law_spec ns h
